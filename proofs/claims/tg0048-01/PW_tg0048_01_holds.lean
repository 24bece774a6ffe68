import PyProof.Rows.All
import Wide.All
import OpenK.AllK
import Wide.FinOn
import PyProof.ExcBaseAll.Exception
import PyProof.InstStoreFacts
import PyProof.ExcAttrAll.Exception
import PyProof.ExcArgsOwn
import KE.KEqSeq
import KE.KEqDeep
import PyProof.P3In
import Lean
import PySem.Challenge.RW_tg0048_01
set_option Elab.async false
set_option linter.all false
set_option compiler.extract_closed false
set_option genInjectivity false
set_option genSizeOf false
set_option maxRecDepth 100000
set_option maxHeartbeats 8000000
section
open PySem PySem.W PyProof.Rows
namespace Mine.hd
noncomputable abbrev pg : Program := PySem.Challenge.pw_tg0048_01
noncomputable abbrev s (x : String) : Str := Str.ofString x
noncomputable abbrev N : Value := .none
noncomputable abbrev I (k : Int) (t : Nat) : Value := .int k t
noncomputable abbrev S (x : String) (t : Nat) : Value := .str (Str.ofString x) t
noncomputable abbrev T (x : String) : Value := .type x
noncomputable abbrev B (x : String) : Value := .builtin x
noncomputable abbrev R (a : Nat) : Value := .ref a
noncomputable abbrev K (P : Params) (x : String) (t : Nat) (v : Value) : DictEntry := ⟨PyData.keyHash P (Str.ofString x), .str (Str.ofString x) t, v⟩
noncomputable abbrev dc (l : List DictEntry) (n : Nat) : Data := .dict l.toArray n
noncomputable abbrev sq (l : List Value) (n : Nat) : Data := .seq l.toArray n
noncomputable abbrev fl (l : List Value) : Data := .fields l.toArray
noncomputable def stAt : List Stmt → List Nat → Option Stmt
  | l, [i] => l[i]?
  | l, i :: r => match l[i]? with
    | some (.ClassDef _ _ _ b _ _ _ _ _ _ _) => stAt b r
    | _ => none
  | _, [] => none
noncomputable def fn (path : List Nat) (qual : String) (g : Nat) (cl : List (Str × Addr)) (dV kV doc pm cd ct : Value) : Data := match stAt pg.main.body path with
  | some (.FunctionDef name params body _ _ _ scope _ _ _) => .func { name, qualname := Str.ofString qual, params, body := .stmts body, scope, globals := g, closure := cl, defaults := dV, kwdefaults := kV, doc, pyModule := pm, code := cd, closureTuple := ct }
  | _ => .plain
set_option maxRecDepth 100000 in
noncomputable def heap_39 (P : Params) : Frag :=
  (nat_lit 0, { cls := (T "dict"), data := (dc [(K P "__name__" 1 (S "builtins" 160)), (K P "__doc__" 2 (B "builtins.__doc__:str#opaque")), (K P "__package__" 3 (B "builtins.__package__:str#opaque")), (K P "__loader__" 4 (B "builtins.__loader__:shared#opaque")), (K P "__spec__" 5 (B "builtins.__spec__#opaque")), (K P "__build_class__" 6 (B "__build_class__")), (K P "__import__" 7 (B "__import__")), (K P "abs" 8 (B "abs")), (K P "all" 9 (B "all")), (K P "any" 10 (B "any")), (K P "ascii" 11 (B "ascii")), (K P "bin" 12 (B "bin")), (K P "breakpoint" 13 (B "breakpoint")), (K P "callable" 14 (B "callable")), (K P "chr" 15 (B "chr")), (K P "compile" 16 (B "compile")), (K P "delattr" 17 (B "delattr")), (K P "dir" 18 (B "dir")), (K P "divmod" 19 (B "divmod")), (K P "eval" 20 (B "eval")), (K P "exec" 21 (B "exec")), (K P "format" 22 (B "format")), (K P "getattr" 23 (B "getattr")), (K P "globals" 24 (B "globals")), (K P "hasattr" 25 (B "hasattr")), (K P "hash" 26 (B "hash")), (K P "hex" 27 (B "hex")), (K P "id" 28 (B "id")), (K P "input" 29 (B "input")), (K P "isinstance" 30 (B "isinstance")), (K P "issubclass" 31 (B "issubclass")), (K P "iter" 32 (B "iter")), (K P "aiter" 33 (B "aiter")), (K P "len" 34 (B "len")), (K P "locals" 35 (B "locals")), (K P "max" 36 (B "max")), (K P "min" 37 (B "min")), (K P "next" 38 (B "next")), (K P "anext" 39 (B "anext")), (K P "oct" 40 (B "oct")), (K P "ord" 41 (B "ord")), (K P "pow" 42 (B "pow")), (K P "print" 43 (B "print")), (K P "repr" 44 (B "repr")), (K P "round" 45 (B "round")), (K P "setattr" 46 (B "setattr")), (K P "sorted" 47 (B "sorted")), (K P "sum" 48 (B "sum")), (K P "vars" 49 (B "vars")), (K P "None" 50 N), (K P "Ellipsis" 51 .ellipsis), (K P "NotImplemented" 52 .notImplemented), (K P "False" 53 (.bool false)), (K P "True" 54 (.bool true)), (K P "bool" 55 (T "bool")), (K P "memoryview" 56 (T "memoryview")), (K P "bytearray" 57 (T "bytearray")), (K P "bytes" 58 (T "bytes")), (K P "classmethod" 59 (T "classmethod")), (K P "complex" 60 (T "complex")), (K P "dict" 61 (T "dict")), (K P "enumerate" 62 (T "enumerate")), (K P "filter" 63 (T "filter")), (K P "float" 64 (T "float")), (K P "frozenset" 65 (T "frozenset")), (K P "property" 66 (T "property")), (K P "int" 67 (T "int")), (K P "list" 68 (T "list")), (K P "map" 69 (T "map")), (K P "object" 70 (T "object")), (K P "range" 71 (T "range")), (K P "reversed" 72 (T "reversed")), (K P "set" 73 (T "set")), (K P "slice" 74 (T "slice")), (K P "staticmethod" 75 (T "staticmethod")), (K P "str" 76 (T "str")), (K P "super" 77 (T "super")), (K P "tuple" 78 (T "tuple")), (K P "type" 79 (T "type")), (K P "zip" 80 (T "zip")), (K P "__debug__" 81 (.bool true)), (K P "BaseException" 82 (T "BaseException")), (K P "BaseExceptionGroup" 83 (T "BaseExceptionGroup")), (K P "Exception" 84 (T "Exception")), (K P "GeneratorExit" 85 (T "GeneratorExit")), (K P "KeyboardInterrupt" 86 (T "KeyboardInterrupt")), (K P "SystemExit" 87 (T "SystemExit")), (K P "ArithmeticError" 88 (T "ArithmeticError")), (K P "AssertionError" 89 (T "AssertionError")), (K P "AttributeError" 90 (T "AttributeError")), (K P "BufferError" 91 (T "BufferError")), (K P "EOFError" 92 (T "EOFError")), (K P "ImportError" 93 (T "ImportError")), (K P "LookupError" 94 (T "LookupError")), (K P "MemoryError" 95 (T "MemoryError")), (K P "NameError" 96 (T "NameError")), (K P "OSError" 97 (T "OSError")), (K P "ReferenceError" 98 (T "ReferenceError")), (K P "RuntimeError" 99 (T "RuntimeError")), (K P "StopAsyncIteration" 100 (T "StopAsyncIteration")), (K P "StopIteration" 101 (T "StopIteration")), (K P "SyntaxError" 102 (T "SyntaxError")), (K P "SystemError" 103 (T "SystemError")), (K P "TypeError" 104 (T "TypeError")), (K P "ValueError" 105 (T "ValueError")), (K P "Warning" 106 (T "Warning")), (K P "FloatingPointError" 107 (T "FloatingPointError")), (K P "OverflowError" 108 (T "OverflowError")), (K P "ZeroDivisionError" 109 (T "ZeroDivisionError")), (K P "BytesWarning" 110 (T "BytesWarning")), (K P "DeprecationWarning" 111 (T "DeprecationWarning")), (K P "EncodingWarning" 112 (T "EncodingWarning")), (K P "FutureWarning" 113 (T "FutureWarning")), (K P "ImportWarning" 114 (T "ImportWarning")), (K P "PendingDeprecationWarning" 115 (T "PendingDeprecationWarning")), (K P "ResourceWarning" 116 (T "ResourceWarning")), (K P "RuntimeWarning" 117 (T "RuntimeWarning")), (K P "SyntaxWarning" 118 (T "SyntaxWarning")), (K P "UnicodeWarning" 119 (T "UnicodeWarning")), (K P "UserWarning" 120 (T "UserWarning")), (K P "BlockingIOError" 121 (T "BlockingIOError")), (K P "ChildProcessError" 122 (T "ChildProcessError")), (K P "ConnectionError" 123 (T "ConnectionError")), (K P "FileExistsError" 124 (T "FileExistsError")), (K P "FileNotFoundError" 125 (T "FileNotFoundError")), (K P "InterruptedError" 126 (T "InterruptedError")), (K P "IsADirectoryError" 127 (T "IsADirectoryError")), (K P "NotADirectoryError" 128 (T "NotADirectoryError")), (K P "PermissionError" 129 (T "PermissionError")), (K P "ProcessLookupError" 130 (T "ProcessLookupError")), (K P "TimeoutError" 131 (T "TimeoutError")), (K P "IndentationError" 132 (T "IndentationError")), (K P "_IncompleteInputError" 133 (T "_IncompleteInputError")), (K P "IndexError" 134 (T "IndexError")), (K P "KeyError" 135 (T "KeyError")), (K P "ModuleNotFoundError" 136 (T "ModuleNotFoundError")), (K P "NotImplementedError" 137 (T "NotImplementedError")), (K P "PythonFinalizationError" 138 (T "PythonFinalizationError")), (K P "RecursionError" 139 (T "RecursionError")), (K P "UnboundLocalError" 140 (T "UnboundLocalError")), (K P "UnicodeError" 141 (T "UnicodeError")), (K P "BrokenPipeError" 142 (T "BrokenPipeError")), (K P "ConnectionAbortedError" 143 (T "ConnectionAbortedError")), (K P "ConnectionRefusedError" 144 (T "ConnectionRefusedError")), (K P "ConnectionResetError" 145 (T "ConnectionResetError")), (K P "TabError" 146 (T "TabError")), (K P "UnicodeDecodeError" 147 (T "UnicodeDecodeError")), (K P "UnicodeEncodeError" 148 (T "UnicodeEncodeError")), (K P "UnicodeTranslateError" 149 (T "UnicodeTranslateError")), (K P "ExceptionGroup" 150 (T "ExceptionGroup")), (K P "EnvironmentError" 151 (T "OSError")), (K P "IOError" 152 (T "OSError")), (K P "open" 153 (B "open")), (K P "quit" 154 (B "builtins.quit#opaque")), (K P "exit" 155 (B "builtins.exit#opaque")), (K P "copyright" 156 (B "builtins.copyright#opaque")), (K P "credits" 157 (B "builtins.credits#opaque")), (K P "license" 158 (B "builtins.license#opaque")), (K P "help" 159 (B "builtins.help#opaque"))] 159) }) ::
  (nat_lit 2, { cls := N, data := (dc [(K P "type.__subclasses__.Exception.0" 228 (I 33 0)), (K P "type.__subclasses__.Exception.n" 229 (I 1 0))] 2) }) ::
  (nat_lit 3, { cls := (T "dict"), data := (dc [(K P "__name__" 165 (S "law_tg0048_01" 658)), (K P "__doc__" 166 N), (K P "__package__" 167 N), (K P "__loader__" 168 (B "__main__.__loader__#opaque")), (K P "__spec__" 169 N), (K P "__annotations__" 170 (R 6)), (K P "__builtins__" 171 (R 4)), (K P "__file__" 173 (S "/claim/cut.py" 172)), (K P "__cached__" 174 N), (K P "FREE" 190 (I 229 189)), (K P "ENTRY_SIZE" 192 (I 32 191)), (K P "NAME_SIZE" 194 (I 11 193)), (K P "MAP_AT" 196 (I 16 195)), (K P "MOST_RECORDS" 198 (I 128 197)), (K P "EXTENTS_LOW" 200 (I 32 199)), (K P "DiskError" 231 (R 33)), (K P "Disk" 269 (R 53)), (K P "Entry" 305 (R 74)), (K P "map_slots" 312 (R 85)), (K P "records_of_block" 319 (R 92)), (K P "records_of_extent" 326 (R 99)), (K P "directory_blocks" 333 (R 106)), (K P "need_writable" 340 (R 113)), (K P "new_entry" 351 (R 120)), (K P "entry_octets" 360 (R 127)), (K P "entry_from" 369 (R 134)), (K P "raw_entry" 377 (R 141)), (K P "read_entry" 385 (R 148)), (K P "write_entry" 394 (R 155)), (K P "put_entry" 405 (R 162)), (K P "erase_entry" 413 (R 169)), (K P "free_entry" 421 (R 176)), (K P "live_entries" 431 (R 183)), (K P "used_blocks" 437 (R 188)), (K P "map_of" 443 (R 193)), (K P "map_octets" 453 (R 200)), (K P "nearest_free" 463 (R 207)), (K P "allocate" 472 (R 214)), (K P "record_place" 481 (R 221)), (K P "read_record" 491 (R 228)), (K P "write_record" 504 (R 235)), (K P "ANY" 508 (I 63 507)), (K P "READ_ONLY_AT" 510 (I 8 509)), (K P "bare" 516 (R 240)), (K P "matches" 522 (R 245)), (K P "has_flag" 530 (R 252)), (K P "find" 542 (R 259)), (K P "find_extent" 553 (R 266)), (K P "exists" 562 (R 273)), (K P "make" 571 (R 280)), (K P "make_extent" 582 (R 287)), (K P "need_changeable" 588 (R 292)), (K P "delete" 600 (R 299)), (K P "rename" 606 (R 304)), (K P "set_attributes" 612 (R 309)), (K P "place_of" 620 (R 316)), (K P "last_block" 626 (R 321)), (K P "read_at" 640 (R 328)), (K P "write_at" 657 (R 335)), (K P "_law_next" 669 (R 342)), (K P "_law_names" 675 (R 349)), (K P "_law_told" 683 (R 356)), (K P "_law_deed" 703 (R 363)), (K P "_law_exchanged" 709 (R 368)), (K P "law" 715 (R 373))] 65) }) ::
  (nat_lit 15, { cls := (T "tuple"), data := (sq [(T "Exception")] 0) }) ::
  (nat_lit 18, { cls := (T "cell"), data := (.cell (some (R 33))) }) ::
  (nat_lit 23, { cls := (T "tuple"), data := (sq [(R 18)] 0) }) ::
  (nat_lit 24, { cls := (T "tuple"), data := (sq [(S "__class__" 216)] 0) }) ::
  (nat_lit 26, { cls := (T "tuple"), data := (sq [(S "self" 217), (S "word" 218)] 0) }) ::
  (nat_lit 27, { cls := (T "tuple"), data := (sq [] 0) }) ::
  (nat_lit 29, { cls := (T "code"), data := (fl [(S "__init__" 213), (S "DiskError.__init__" 214), (S "/claim/cut.py" 215), (I 10 0), (I 2 0), (I 0 0), (I 0 0), (I 3 0), (R 24), (.bool true), (I 181 0), (R 25), N, (R 26), (R 27), (R 28), (I 219 0), (I 10 0), (S "/claim/cut.py" 220)]) }) ::
  (nat_lit 30, { cls := (T "function"), data := (fn [7, 0] "DiskError.__init__" 3 [((s "__class__"), 18)] N N N (S "z80.disk" 187) (R 29) (R 23)) }) ::
  (nat_lit 31, { cls := (T "tuple"), data := (sq [(S "word" 222)] 0) }) ::
  (nat_lit 32, { cls := (T "dict"), data := (dc [(K P "__module__" 208 (S "z80.disk" 187)), (K P "__firstlineno__" 212 (I 8 211)), (K P "__init__" 221 (R 30)), (K P "__static_attributes__" 223 (R 31)), (K P "__weakref__" 226 (R 34)), (K P "__doc__" 227 N)] 4) }) ::
  (nat_lit 33, { cls := (T "type"), data := (.cls ⟨(s "DiskError"), [(T "Exception")], [(R 33), (T "Exception"), (T "BaseException"), (T "object")], 32, (s "DiskError"), true, [], [], false, none, false⟩), slots := #[some (R 15), none, some (S "DiskError" 201), some (S "DiskError" 209), some (B "Exception.__new__"), some (.bool true)] }) ::
  (nat_lit 34, { cls := (T "getset_descriptor"), data := (fl [(S "__weakref__" 225), (R 33), (B "ExceptionGroup.__weakref__"), N]) }) ::
  (nat_lit 44, { cls := (T "tuple"), data := (sq [] 0) }) ::
  (nat_lit 46, { cls := (T "tuple"), data := (sq [(S "self" 247), (S "blocks" 248), (S "block" 249), (S "record" 250), (S "entries" 251)] 0) }) ::
  (nat_lit 47, { cls := (T "tuple"), data := (sq [] 0) }) ::
  (nat_lit 49, { cls := (T "code"), data := (fl [(S "__init__" 244), (S "Disk.__init__" 245), (S "/claim/cut.py" 246), (I 15 0), (I 5 0), (I 0 0), (I 0 0), (I 3 0), (R 44), (.bool true), (I 181 0), (R 45), N, (R 46), (R 47), (R 48), (I 252 0), (I 15 0), (S "/claim/cut.py" 253)]) }) ::
  (nat_lit 50, { cls := (T "function"), data := (fn [8, 0] "Disk.__init__" 3 [] N N N (S "z80.disk" 187) (R 49) N) }) ::
  (nat_lit 51, { cls := (T "tuple"), data := (sq [(S "block" 255), (S "blocks" 256), (S "data" 257), (S "entries" 258), (S "given" 259), (S "is_read_only" 260), (S "record" 261)] 0) }) ::
  (nat_lit 52, { cls := (T "dict"), data := (dc [(K P "__module__" 239 (S "z80.disk" 187)), (K P "__firstlineno__" 243 (I 13 242)), (K P "__init__" 254 (R 50)), (K P "__static_attributes__" 262 (R 51)), (K P "__dict__" 264 (R 54)), (K P "__weakref__" 266 (R 55)), (K P "__doc__" 267 N)] 4) }) ::
  (nat_lit 53, { cls := (T "type"), data := (.cls ⟨(s "Disk"), [(T "object")], [(R 53), (T "object")], 52, (s "Disk"), true, [], [], false, none, false⟩), slots := #[none, none, some (S "Disk" 232), some (S "Disk" 240), some (B "object.__new__"), some (.bool true)] }) ::
  (nat_lit 54, { cls := (T "getset_descriptor"), data := (fl [(S "__dict__" 263), (R 53), (B "function.__dict__"), (B "function.__dict__#set")]) }) ::
  (nat_lit 55, { cls := (T "getset_descriptor"), data := (fl [(S "__weakref__" 265), (R 53), (B "ExceptionGroup.__weakref__"), N]) }) ::
  (nat_lit 65, { cls := (T "tuple"), data := (sq [] 0) }) ::
  (nat_lit 67, { cls := (T "tuple"), data := (sq [(S "self" 285), (S "user" 286), (S "raw" 287), (S "extent" 288)] 0) }) ::
  (nat_lit 68, { cls := (T "tuple"), data := (sq [] 0) }) ::
  (nat_lit 70, { cls := (T "code"), data := (fl [(S "__init__" 282), (S "Entry.__init__" 283), (S "/claim/cut.py" 284), (I 27 0), (I 4 0), (I 0 0), (I 0 0), (I 3 0), (R 65), (.bool true), (I 181 0), (R 66), N, (R 67), (R 68), (R 69), (I 289 0), (I 27 0), (S "/claim/cut.py" 290)]) }) ::
  (nat_lit 71, { cls := (T "function"), data := (fn [9, 0] "Entry.__init__" 3 [] N N N (S "z80.disk" 187) (R 70) N) }) ::
  (nat_lit 72, { cls := (T "tuple"), data := (sq [(S "count" 292), (S "extent" 293), (S "map" 294), (S "raw" 295), (S "spare" 296), (S "user" 297)] 0) }) ::
  (nat_lit 73, { cls := (T "dict"), data := (dc [(K P "__module__" 277 (S "z80.disk" 187)), (K P "__firstlineno__" 281 (I 25 280)), (K P "__init__" 291 (R 71)), (K P "__static_attributes__" 298 (R 72)), (K P "__dict__" 300 (R 75)), (K P "__weakref__" 302 (R 76)), (K P "__doc__" 303 N)] 4) }) ::
  (nat_lit 74, { cls := (T "type"), data := (.cls ⟨(s "Entry"), [(T "object")], [(R 74), (T "object")], 73, (s "Entry"), true, [], [], false, none, false⟩), slots := #[none, none, some (S "Entry" 270), some (S "Entry" 278), some (B "object.__new__"), some (.bool true)] }) ::
  (nat_lit 75, { cls := (T "getset_descriptor"), data := (fl [(S "__dict__" 299), (R 74), (B "function.__dict__"), (B "function.__dict__#set")]) }) ::
  (nat_lit 76, { cls := (T "getset_descriptor"), data := (fl [(S "__weakref__" 301), (R 74), (B "ExceptionGroup.__weakref__"), N]) }) ::
  (nat_lit 79, { cls := (T "tuple"), data := (sq [] 0) }) ::
  (nat_lit 81, { cls := (T "tuple"), data := (sq [(S "disk" 309)] 0) }) ::
  (nat_lit 82, { cls := (T "tuple"), data := (sq [] 0) }) ::
  (nat_lit 84, { cls := (T "code"), data := (fl [(S "map_slots" 306), (S "map_slots" 307), (S "/claim/cut.py" 308), (I 34 0), (I 1 0), (I 0 0), (I 0 0), (I 3 0), (R 79), (.bool true), (I 181 0), (R 80), N, (R 81), (R 82), (R 83), (I 310 0), (I 34 0), (S "/claim/cut.py" 311)]) }) ::
  (nat_lit 85, { cls := (T "function"), data := (fn [10] "map_slots" 3 [] N N N (S "z80.disk" 187) (R 84) N) }) ::
  (nat_lit 86, { cls := (T "tuple"), data := (sq [] 0) }) ::
  (nat_lit 88, { cls := (T "tuple"), data := (sq [(S "disk" 316)] 0) }) ::
  (nat_lit 89, { cls := (T "tuple"), data := (sq [] 0) }) ::
  (nat_lit 91, { cls := (T "code"), data := (fl [(S "records_of_block" 313), (S "records_of_block" 314), (S "/claim/cut.py" 315), (I 36 0), (I 1 0), (I 0 0), (I 0 0), (I 3 0), (R 86), (.bool true), (I 181 0), (R 87), N, (R 88), (R 89), (R 90), (I 317 0), (I 36 0), (S "/claim/cut.py" 318)]) }) ::
  (nat_lit 92, { cls := (T "function"), data := (fn [11] "records_of_block" 3 [] N N N (S "z80.disk" 187) (R 91) N) }) ::
  (nat_lit 93, { cls := (T "tuple"), data := (sq [] 0) }) ::
  (nat_lit 95, { cls := (T "tuple"), data := (sq [(S "disk" 323)] 0) }) ::
  (nat_lit 96, { cls := (T "tuple"), data := (sq [] 0) }) ::
  (nat_lit 98, { cls := (T "code"), data := (fl [(S "records_of_extent" 320), (S "records_of_extent" 321), (S "/claim/cut.py" 322), (I 38 0), (I 1 0), (I 0 0), (I 0 0), (I 3 0), (R 93), (.bool true), (I 181 0), (R 94), N, (R 95), (R 96), (R 97), (I 324 0), (I 38 0), (S "/claim/cut.py" 325)]) }) ::
  (nat_lit 99, { cls := (T "function"), data := (fn [12] "records_of_extent" 3 [] N N N (S "z80.disk" 187) (R 98) N) }) ::
  (nat_lit 100, { cls := (T "tuple"), data := (sq [] 0) }) ::
  (nat_lit 102, { cls := (T "tuple"), data := (sq [(S "disk" 330)] 0) }) ::
  (nat_lit 103, { cls := (T "tuple"), data := (sq [] 0) }) ::
  (nat_lit 105, { cls := (T "code"), data := (fl [(S "directory_blocks" 327), (S "directory_blocks" 328), (S "/claim/cut.py" 329), (I 40 0), (I 1 0), (I 0 0), (I 0 0), (I 3 0), (R 100), (.bool true), (I 181 0), (R 101), N, (R 102), (R 103), (R 104), (I 331 0), (I 40 0), (S "/claim/cut.py" 332)]) }) ::
  (nat_lit 106, { cls := (T "function"), data := (fn [13] "directory_blocks" 3 [] N N N (S "z80.disk" 187) (R 105) N) }) ::
  (nat_lit 107, { cls := (T "tuple"), data := (sq [] 0) }) ::
  (nat_lit 109, { cls := (T "tuple"), data := (sq [(S "disk" 337)] 0) }) ::
  (nat_lit 110, { cls := (T "tuple"), data := (sq [] 0) }) ::
  (nat_lit 112, { cls := (T "code"), data := (fl [(S "need_writable" 334), (S "need_writable" 335), (S "/claim/cut.py" 336), (I 42 0), (I 1 0), (I 0 0), (I 0 0), (I 3 0), (R 107), (.bool true), (I 181 0), (R 108), N, (R 109), (R 110), (R 111), (I 338 0), (I 42 0), (S "/claim/cut.py" 339)]) }) ::
  (nat_lit 113, { cls := (T "function"), data := (fn [14] "need_writable" 3 [] N N N (S "z80.disk" 187) (R 112) N) }) ::
  (nat_lit 114, { cls := (T "tuple"), data := (sq [] 0) }) ::
  (nat_lit 116, { cls := (T "tuple"), data := (sq [(S "disk" 344), (S "user" 345), (S "raw" 346), (S "extent" 347), (S "found" 348)] 0) }) ::
  (nat_lit 117, { cls := (T "tuple"), data := (sq [] 0) }) ::
  (nat_lit 119, { cls := (T "code"), data := (fl [(S "new_entry" 341), (S "new_entry" 342), (S "/claim/cut.py" 343), (I 45 0), (I 4 0), (I 0 0), (I 0 0), (I 3 0), (R 114), (.bool true), (I 181 0), (R 115), N, (R 116), (R 117), (R 118), (I 349 0), (I 45 0), (S "/claim/cut.py" 350)]) }) ::
  (nat_lit 120, { cls := (T "function"), data := (fn [15] "new_entry" 3 [] N N N (S "z80.disk" 187) (R 119) N) }) ::
  (nat_lit 121, { cls := (T "tuple"), data := (sq [] 0) }) ::
  (nat_lit 123, { cls := (T "tuple"), data := (sq [(S "disk" 355), (S "entry" 356), (S "found" 357)] 0) }) ::
  (nat_lit 124, { cls := (T "tuple"), data := (sq [] 0) }) ::
  (nat_lit 126, { cls := (T "code"), data := (fl [(S "entry_octets" 352), (S "entry_octets" 353), (S "/claim/cut.py" 354), (I 49 0), (I 2 0), (I 0 0), (I 0 0), (I 3 0), (R 121), (.bool true), (I 181 0), (R 122), N, (R 123), (R 124), (R 125), (I 358 0), (I 49 0), (S "/claim/cut.py" 359)]) }) ::
  (nat_lit 127, { cls := (T "function"), data := (fn [16] "entry_octets" 3 [] N N N (S "z80.disk" 187) (R 126) N) }) ::
  (nat_lit 128, { cls := (T "tuple"), data := (sq [] 0) }) ::
  (nat_lit 130, { cls := (T "tuple"), data := (sq [(S "disk" 364), (S "octets" 365), (S "found" 366)] 0) }) ::
  (nat_lit 131, { cls := (T "tuple"), data := (sq [] 0) }) ::
  (nat_lit 133, { cls := (T "code"), data := (fl [(S "entry_from" 361), (S "entry_from" 362), (S "/claim/cut.py" 363), (I 53 0), (I 2 0), (I 0 0), (I 0 0), (I 3 0), (R 128), (.bool true), (I 181 0), (R 129), N, (R 130), (R 131), (R 132), (I 367 0), (I 53 0), (S "/claim/cut.py" 368)]) }) ::
  (nat_lit 134, { cls := (T "function"), data := (fn [17] "entry_from" 3 [] N N N (S "z80.disk" 187) (R 133) N) }) ::
  (nat_lit 135, { cls := (T "tuple"), data := (sq [] 0) }) ::
  (nat_lit 137, { cls := (T "tuple"), data := (sq [(S "disk" 373), (S "number" 374)] 0) }) ::
  (nat_lit 138, { cls := (T "tuple"), data := (sq [] 0) }) ::
  (nat_lit 140, { cls := (T "code"), data := (fl [(S "raw_entry" 370), (S "raw_entry" 371), (S "/claim/cut.py" 372), (I 61 0), (I 2 0), (I 0 0), (I 0 0), (I 3 0), (R 135), (.bool true), (I 181 0), (R 136), N, (R 137), (R 138), (R 139), (I 375 0), (I 61 0), (S "/claim/cut.py" 376)]) }) ::
  (nat_lit 141, { cls := (T "function"), data := (fn [18] "raw_entry" 3 [] N N N (S "z80.disk" 187) (R 140) N) }) ::
  (nat_lit 142, { cls := (T "tuple"), data := (sq [] 0) }) ::
  (nat_lit 144, { cls := (T "tuple"), data := (sq [(S "disk" 381), (S "number" 382)] 0) }) ::
  (nat_lit 145, { cls := (T "tuple"), data := (sq [] 0) }) ::
  (nat_lit 147, { cls := (T "code"), data := (fl [(S "read_entry" 378), (S "read_entry" 379), (S "/claim/cut.py" 380), (I 65 0), (I 2 0), (I 0 0), (I 0 0), (I 3 0), (R 142), (.bool true), (I 181 0), (R 143), N, (R 144), (R 145), (R 146), (I 383 0), (I 65 0), (S "/claim/cut.py" 384)]) }) ::
  (nat_lit 148, { cls := (T "function"), data := (fn [19] "read_entry" 3 [] N N N (S "z80.disk" 187) (R 147) N) }) ::
  (nat_lit 149, { cls := (T "tuple"), data := (sq [] 0) }) ::
  (nat_lit 151, { cls := (T "tuple"), data := (sq [(S "disk" 389), (S "number" 390), (S "entry" 391)] 0) }) ::
  (nat_lit 152, { cls := (T "tuple"), data := (sq [] 0) }) ::
  (nat_lit 154, { cls := (T "code"), data := (fl [(S "write_entry" 386), (S "write_entry" 387), (S "/claim/cut.py" 388), (I 67 0), (I 3 0), (I 0 0), (I 0 0), (I 3 0), (R 149), (.bool true), (I 181 0), (R 150), N, (R 151), (R 152), (R 153), (I 392 0), (I 67 0), (S "/claim/cut.py" 393)]) }) ::
  (nat_lit 155, { cls := (T "function"), data := (fn [20] "write_entry" 3 [] N N N (S "z80.disk" 187) (R 154) N) }) ::
  (nat_lit 156, { cls := (T "tuple"), data := (sq [] 0) }) ::
  (nat_lit 158, { cls := (T "tuple"), data := (sq [(S "disk" 398), (S "number" 399), (S "octets" 400), (S "at" 401), (S "octet" 402)] 0) }) ::
  (nat_lit 159, { cls := (T "tuple"), data := (sq [] 0) }) ::
  (nat_lit 161, { cls := (T "code"), data := (fl [(S "put_entry" 395), (S "put_entry" 396), (S "/claim/cut.py" 397), (I 69 0), (I 3 0), (I 0 0), (I 0 0), (I 3 0), (R 156), (.bool true), (I 181 0), (R 157), N, (R 158), (R 159), (R 160), (I 403 0), (I 69 0), (S "/claim/cut.py" 404)]) }) ::
  (nat_lit 162, { cls := (T "function"), data := (fn [21] "put_entry" 3 [] N N N (S "z80.disk" 187) (R 161) N) }) ::
  (nat_lit 163, { cls := (T "tuple"), data := (sq [] 0) }) ::
  (nat_lit 165, { cls := (T "tuple"), data := (sq [(S "disk" 409), (S "number" 410)] 0) }) ::
  (nat_lit 166, { cls := (T "tuple"), data := (sq [] 0) }) ::
  (nat_lit 168, { cls := (T "code"), data := (fl [(S "erase_entry" 406), (S "erase_entry" 407), (S "/claim/cut.py" 408), (I 74 0), (I 2 0), (I 0 0), (I 0 0), (I 3 0), (R 163), (.bool true), (I 181 0), (R 164), N, (R 165), (R 166), (R 167), (I 411 0), (I 74 0), (S "/claim/cut.py" 412)]) }) ::
  (nat_lit 169, { cls := (T "function"), data := (fn [22] "erase_entry" 3 [] N N N (S "z80.disk" 187) (R 168) N) }) ::
  (nat_lit 170, { cls := (T "tuple"), data := (sq [] 0) }) ::
  (nat_lit 172, { cls := (T "tuple"), data := (sq [(S "disk" 417), (S "number" 418)] 0) }) ::
  (nat_lit 173, { cls := (T "tuple"), data := (sq [] 0) }) ::
  (nat_lit 175, { cls := (T "code"), data := (fl [(S "free_entry" 414), (S "free_entry" 415), (S "/claim/cut.py" 416), (I 78 0), (I 1 0), (I 0 0), (I 0 0), (I 3 0), (R 170), (.bool true), (I 181 0), (R 171), N, (R 172), (R 173), (R 174), (I 419 0), (I 78 0), (S "/claim/cut.py" 420)]) }) ::
  (nat_lit 176, { cls := (T "function"), data := (fn [23] "free_entry" 3 [] N N N (S "z80.disk" 187) (R 175) N) }) ::
  (nat_lit 177, { cls := (T "tuple"), data := (sq [] 0) }) ::
  (nat_lit 179, { cls := (T "tuple"), data := (sq [(S "disk" 425), (S "found" 426), (S "number" 427), (S "entry" 428)] 0) }) ::
  (nat_lit 180, { cls := (T "tuple"), data := (sq [] 0) }) ::
  (nat_lit 182, { cls := (T "code"), data := (fl [(S "live_entries" 422), (S "live_entries" 423), (S "/claim/cut.py" 424), (I 83 0), (I 1 0), (I 0 0), (I 0 0), (I 3 0), (R 177), (.bool true), (I 181 0), (R 178), N, (R 179), (R 180), (R 181), (I 429 0), (I 83 0), (S "/claim/cut.py" 430)]) }) ::
  (nat_lit 183, { cls := (T "function"), data := (fn [24] "live_entries" 3 [] N N N (S "z80.disk" 187) (R 182) N) }) ::
  (nat_lit 184, { cls := (T "tuple"), data := (sq [] 0) }) ::
  (nat_lit 187, { cls := (T "code"), data := (fl [(S "used_blocks" 432), (S "used_blocks" 433), (S "/claim/cut.py" 434), (I 90 0), (I 1 0), (I 0 0), (I 0 0), (I 3 0), (R 184), (.bool true), (I 181 0), (R 185), N, N, N, (R 186), (I 435 0), (I 90 0), (S "/claim/cut.py" 436)]) }) ::
  (nat_lit 188, { cls := (T "function"), data := (fn [25] "used_blocks" 3 [] N N N (S "z80.disk" 187) (R 187) N) }) ::
  (nat_lit 189, { cls := (T "tuple"), data := (sq [] 0) }) ::
  (nat_lit 192, { cls := (T "code"), data := (fl [(S "map_of" 438), (S "map_of" 439), (S "/claim/cut.py" 440), (I 97 0), (I 2 0), (I 0 0), (I 0 0), (I 3 0), (R 189), (.bool true), (I 181 0), (R 190), N, N, N, (R 191), (I 441 0), (I 97 0), (S "/claim/cut.py" 442)]) }) ::
  (nat_lit 193, { cls := (T "function"), data := (fn [26] "map_of" 3 [] N N N (S "z80.disk" 187) (R 192) N) }) ::
  (nat_lit 194, { cls := (T "tuple"), data := (sq [] 0) }) ::
  (nat_lit 196, { cls := (T "tuple"), data := (sq [(S "disk" 447), (S "blocks" 448), (S "found" 449), (S "block" 450)] 0) }) ::
  (nat_lit 197, { cls := (T "tuple"), data := (sq [] 0) }) ::
  (nat_lit 199, { cls := (T "code"), data := (fl [(S "map_octets" 444), (S "map_octets" 445), (S "/claim/cut.py" 446), (I 101 0), (I 2 0), (I 0 0), (I 0 0), (I 3 0), (R 194), (.bool true), (I 181 0), (R 195), N, (R 196), (R 197), (R 198), (I 451 0), (I 101 0), (S "/claim/cut.py" 452)]) }) ::
  (nat_lit 200, { cls := (T "function"), data := (fn [27] "map_octets" 3 [] N N N (S "z80.disk" 187) (R 199) N) }) ::
  (nat_lit 201, { cls := (T "tuple"), data := (sq [] 0) }) ::
  (nat_lit 203, { cls := (T "tuple"), data := (sq [(S "is_used" 457), (S "near" 458), (S "left" 459), (S "right" 460)] 0) }) ::
  (nat_lit 204, { cls := (T "tuple"), data := (sq [] 0) }) ::
  (nat_lit 206, { cls := (T "code"), data := (fl [(S "nearest_free" 454), (S "nearest_free" 455), (S "/claim/cut.py" 456), (I 108 0), (I 2 0), (I 0 0), (I 0 0), (I 3 0), (R 201), (.bool true), (I 181 0), (R 202), N, (R 203), (R 204), (R 205), (I 461 0), (I 108 0), (S "/claim/cut.py" 462)]) }) ::
  (nat_lit 207, { cls := (T "function"), data := (fn [28] "nearest_free" 3 [] N N N (S "z80.disk" 187) (R 206) N) }) ::
  (nat_lit 208, { cls := (T "tuple"), data := (sq [] 0) }) ::
  (nat_lit 210, { cls := (T "tuple"), data := (sq [(S "disk" 467), (S "near" 468), (S "found" 469)] 0) }) ::
  (nat_lit 211, { cls := (T "tuple"), data := (sq [] 0) }) ::
  (nat_lit 213, { cls := (T "code"), data := (fl [(S "allocate" 464), (S "allocate" 465), (S "/claim/cut.py" 466), (I 120 0), (I 2 0), (I 0 0), (I 0 0), (I 3 0), (R 208), (.bool true), (I 181 0), (R 209), N, (R 210), (R 211), (R 212), (I 470 0), (I 120 0), (S "/claim/cut.py" 471)]) }) ::
  (nat_lit 214, { cls := (T "function"), data := (fn [29] "allocate" 3 [] N N N (S "z80.disk" 187) (R 213) N) }) ::
  (nat_lit 215, { cls := (T "tuple"), data := (sq [] 0) }) ::
  (nat_lit 217, { cls := (T "tuple"), data := (sq [(S "disk" 476), (S "block" 477), (S "index" 478)] 0) }) ::
  (nat_lit 218, { cls := (T "tuple"), data := (sq [] 0) }) ::
  (nat_lit 220, { cls := (T "code"), data := (fl [(S "record_place" 473), (S "record_place" 474), (S "/claim/cut.py" 475), (I 125 0), (I 3 0), (I 0 0), (I 0 0), (I 3 0), (R 215), (.bool true), (I 181 0), (R 216), N, (R 217), (R 218), (R 219), (I 479 0), (I 125 0), (S "/claim/cut.py" 480)]) }) ::
  (nat_lit 221, { cls := (T "function"), data := (fn [30] "record_place" 3 [] N N N (S "z80.disk" 187) (R 220) N) }) ::
  (nat_lit 222, { cls := (T "tuple"), data := (sq [] 0) }) ::
  (nat_lit 224, { cls := (T "tuple"), data := (sq [(S "disk" 485), (S "block" 486), (S "index" 487), (S "begin" 488)] 0) }) ::
  (nat_lit 225, { cls := (T "tuple"), data := (sq [] 0) }) ::
  (nat_lit 227, { cls := (T "code"), data := (fl [(S "read_record" 482), (S "read_record" 483), (S "/claim/cut.py" 484), (I 129 0), (I 3 0), (I 0 0), (I 0 0), (I 3 0), (R 222), (.bool true), (I 181 0), (R 223), N, (R 224), (R 225), (R 226), (I 489 0), (I 129 0), (S "/claim/cut.py" 490)]) }) ::
  (nat_lit 228, { cls := (T "function"), data := (fn [31] "read_record" 3 [] N N N (S "z80.disk" 187) (R 227) N) }) ::
  (nat_lit 229, { cls := (T "tuple"), data := (sq [] 0) }) ::
  (nat_lit 231, { cls := (T "tuple"), data := (sq [(S "disk" 495), (S "block" 496), (S "index" 497), (S "octets" 498), (S "begin" 499), (S "at" 500), (S "octet" 501)] 0) }) ::
  (nat_lit 232, { cls := (T "tuple"), data := (sq [] 0) }) ::
  (nat_lit 234, { cls := (T "code"), data := (fl [(S "write_record" 492), (S "write_record" 493), (S "/claim/cut.py" 494), (I 132 0), (I 4 0), (I 0 0), (I 0 0), (I 3 0), (R 229), (.bool true), (I 181 0), (R 230), N, (R 231), (R 232), (R 233), (I 502 0), (I 132 0), (S "/claim/cut.py" 503)]) }) ::
  (nat_lit 235, { cls := (T "function"), data := (fn [32] "write_record" 3 [] N N N (S "z80.disk" 187) (R 234) N) }) ::
  (nat_lit 236, { cls := (T "tuple"), data := (sq [] 0) }) ::
  (nat_lit 239, { cls := (T "code"), data := (fl [(S "bare" 511), (S "bare" 512), (S "/claim/cut.py" 513), (I 142 0), (I 1 0), (I 0 0), (I 0 0), (I 3 0), (R 236), (.bool true), (I 181 0), (R 237), N, N, N, (R 238), (I 514 0), (I 142 0), (S "/claim/cut.py" 515)]) }) ::
  (nat_lit 240, { cls := (T "function"), data := (fn [36] "bare" 3 [] N N N (S "z80.files" 505) (R 239) N) }) ::
  (nat_lit 241, { cls := (T "tuple"), data := (sq [] 0) }) ::
  (nat_lit 244, { cls := (T "code"), data := (fl [(S "matches" 517), (S "matches" 518), (S "/claim/cut.py" 519), (I 144 0), (I 2 0), (I 0 0), (I 0 0), (I 3 0), (R 241), (.bool true), (I 181 0), (R 242), N, N, N, (R 243), (I 520 0), (I 144 0), (S "/claim/cut.py" 521)]) }) ::
  (nat_lit 245, { cls := (T "function"), data := (fn [37] "matches" 3 [] N N N (S "z80.files" 505) (R 244) N) }) ::
  (nat_lit 246, { cls := (T "tuple"), data := (sq [] 0) }) ::
  (nat_lit 248, { cls := (T "tuple"), data := (sq [(S "raw" 526), (S "at" 527)] 0) }) ::
  (nat_lit 249, { cls := (T "tuple"), data := (sq [] 0) }) ::
  (nat_lit 251, { cls := (T "code"), data := (fl [(S "has_flag" 523), (S "has_flag" 524), (S "/claim/cut.py" 525), (I 146 0), (I 2 0), (I 0 0), (I 0 0), (I 3 0), (R 246), (.bool true), (I 181 0), (R 247), N, (R 248), (R 249), (R 250), (I 528 0), (I 146 0), (S "/claim/cut.py" 529)]) }) ::
  (nat_lit 252, { cls := (T "function"), data := (fn [38] "has_flag" 3 [] N N N (S "z80.files" 505) (R 251) N) }) ::
  (nat_lit 253, { cls := (T "tuple"), data := (sq [] 0) }) ::
  (nat_lit 255, { cls := (T "tuple"), data := (sq [(S "disk" 534), (S "user" 535), (S "pattern" 536), (S "found" 537), (S "number" 538), (S "octets" 539)] 0) }) ::
  (nat_lit 256, { cls := (T "tuple"), data := (sq [] 0) }) ::
  (nat_lit 258, { cls := (T "code"), data := (fl [(S "find" 531), (S "find" 532), (S "/claim/cut.py" 533), (I 148 0), (I 3 0), (I 0 0), (I 0 0), (I 3 0), (R 253), (.bool true), (I 181 0), (R 254), N, (R 255), (R 256), (R 257), (I 540 0), (I 148 0), (S "/claim/cut.py" 541)]) }) ::
  (nat_lit 259, { cls := (T "function"), data := (fn [39] "find" 3 [] N N N (S "z80.files" 505) (R 258) N) }) ::
  (nat_lit 260, { cls := (T "tuple"), data := (sq [] 0) }) ::
  (nat_lit 262, { cls := (T "tuple"), data := (sq [(S "disk" 546), (S "user" 547), (S "raw" 548), (S "extent" 549), (S "pair" 550)] 0) }) ::
  (nat_lit 263, { cls := (T "tuple"), data := (sq [] 0) }) ::
  (nat_lit 265, { cls := (T "code"), data := (fl [(S "find_extent" 543), (S "find_extent" 544), (S "/claim/cut.py" 545), (I 155 0), (I 4 0), (I 0 0), (I 0 0), (I 3 0), (R 260), (.bool true), (I 181 0), (R 261), N, (R 262), (R 263), (R 264), (I 551 0), (I 155 0), (S "/claim/cut.py" 552)]) }) ::
  (nat_lit 266, { cls := (T "function"), data := (fn [40] "find_extent" 3 [] N N N (S "z80.files" 505) (R 265) N) }) ::
  (nat_lit 267, { cls := (T "tuple"), data := (sq [] 0) }) ::
  (nat_lit 269, { cls := (T "tuple"), data := (sq [(S "disk" 557), (S "user" 558), (S "raw" 559)] 0) }) ::
  (nat_lit 270, { cls := (T "tuple"), data := (sq [] 0) }) ::
  (nat_lit 272, { cls := (T "code"), data := (fl [(S "exists" 554), (S "exists" 555), (S "/claim/cut.py" 556), (I 160 0), (I 3 0), (I 0 0), (I 0 0), (I 3 0), (R 267), (.bool true), (I 181 0), (R 268), N, (R 269), (R 270), (R 271), (I 560 0), (I 160 0), (S "/claim/cut.py" 561)]) }) ::
  (nat_lit 273, { cls := (T "function"), data := (fn [41] "exists" 3 [] N N N (S "z80.files" 505) (R 272) N) }) ::
  (nat_lit 274, { cls := (T "tuple"), data := (sq [] 0) }) ::
  (nat_lit 276, { cls := (T "tuple"), data := (sq [(S "disk" 566), (S "user" 567), (S "raw" 568)] 0) }) ::
  (nat_lit 277, { cls := (T "tuple"), data := (sq [] 0) }) ::
  (nat_lit 279, { cls := (T "code"), data := (fl [(S "make" 563), (S "make" 564), (S "/claim/cut.py" 565), (I 162 0), (I 3 0), (I 0 0), (I 0 0), (I 3 0), (R 274), (.bool true), (I 181 0), (R 275), N, (R 276), (R 277), (R 278), (I 569 0), (I 162 0), (S "/claim/cut.py" 570)]) }) ::
  (nat_lit 280, { cls := (T "function"), data := (fn [42] "make" 3 [] N N N (S "z80.files" 505) (R 279) N) }) ::
  (nat_lit 281, { cls := (T "tuple"), data := (sq [] 0) }) ::
  (nat_lit 283, { cls := (T "tuple"), data := (sq [(S "disk" 575), (S "user" 576), (S "raw" 577), (S "extent" 578), (S "number" 579)] 0) }) ::
  (nat_lit 284, { cls := (T "tuple"), data := (sq [] 0) }) ::
  (nat_lit 286, { cls := (T "code"), data := (fl [(S "make_extent" 572), (S "make_extent" 573), (S "/claim/cut.py" 574), (I 164 0), (I 4 0), (I 0 0), (I 0 0), (I 3 0), (R 281), (.bool true), (I 181 0), (R 282), N, (R 283), (R 284), (R 285), (I 580 0), (I 164 0), (S "/claim/cut.py" 581)]) }) ::
  (nat_lit 287, { cls := (T "function"), data := (fn [43] "make_extent" 3 [] N N N (S "z80.files" 505) (R 286) N) }) ::
  (nat_lit 288, { cls := (T "tuple"), data := (sq [] 0) }) ::
  (nat_lit 291, { cls := (T "code"), data := (fl [(S "need_changeable" 583), (S "need_changeable" 584), (S "/claim/cut.py" 585), (I 171 0), (I 1 0), (I 0 0), (I 0 0), (I 3 0), (R 288), (.bool true), (I 181 0), (R 289), N, N, N, (R 290), (I 586 0), (I 171 0), (S "/claim/cut.py" 587)]) }) ::
  (nat_lit 292, { cls := (T "function"), data := (fn [44] "need_changeable" 3 [] N N N (S "z80.files" 505) (R 291) N) }) ::
  (nat_lit 293, { cls := (T "tuple"), data := (sq [] 0) }) ::
  (nat_lit 295, { cls := (T "tuple"), data := (sq [(S "disk" 592), (S "user" 593), (S "pattern" 594), (S "pairs" 595), (S "number" 596), (S "entry" 597)] 0) }) ::
  (nat_lit 296, { cls := (T "tuple"), data := (sq [] 0) }) ::
  (nat_lit 298, { cls := (T "code"), data := (fl [(S "delete" 589), (S "delete" 590), (S "/claim/cut.py" 591), (I 174 0), (I 3 0), (I 0 0), (I 0 0), (I 3 0), (R 293), (.bool true), (I 181 0), (R 294), N, (R 295), (R 296), (R 297), (I 598 0), (I 174 0), (S "/claim/cut.py" 599)]) }) ::
  (nat_lit 299, { cls := (T "function"), data := (fn [45] "delete" 3 [] N N N (S "z80.files" 505) (R 298) N) }) ::
  (nat_lit 300, { cls := (T "tuple"), data := (sq [] 0) }) ::
  (nat_lit 303, { cls := (T "code"), data := (fl [(S "rename" 601), (S "rename" 602), (S "/claim/cut.py" 603), (I 181 0), (I 4 0), (I 0 0), (I 0 0), (I 3 0), (R 300), (.bool true), (I 181 0), (R 301), N, N, N, (R 302), (I 604 0), (I 181 0), (S "/claim/cut.py" 605)]) }) ::
  (nat_lit 304, { cls := (T "function"), data := (fn [46] "rename" 3 [] N N N (S "z80.files" 505) (R 303) N) }) ::
  (nat_lit 305, { cls := (T "tuple"), data := (sq [] 0) }) ::
  (nat_lit 308, { cls := (T "code"), data := (fl [(S "set_attributes" 607), (S "set_attributes" 608), (S "/claim/cut.py" 609), (I 189 0), (I 3 0), (I 0 0), (I 0 0), (I 3 0), (R 305), (.bool true), (I 181 0), (R 306), N, N, N, (R 307), (I 610 0), (I 189 0), (S "/claim/cut.py" 611)]) }) ::
  (nat_lit 309, { cls := (T "function"), data := (fn [47] "set_attributes" 3 [] N N N (S "z80.files" 505) (R 308) N) }) ::
  (nat_lit 310, { cls := (T "tuple"), data := (sq [] 0) }) ::
  (nat_lit 312, { cls := (T "tuple"), data := (sq [(S "disk" 616), (S "record" 617)] 0) }) ::
  (nat_lit 313, { cls := (T "tuple"), data := (sq [] 0) }) ::
  (nat_lit 315, { cls := (T "code"), data := (fl [(S "place_of" 613), (S "place_of" 614), (S "/claim/cut.py" 615), (I 196 0), (I 2 0), (I 0 0), (I 0 0), (I 3 0), (R 310), (.bool true), (I 181 0), (R 311), N, (R 312), (R 313), (R 314), (I 618 0), (I 196 0), (S "/claim/cut.py" 619)]) }) ::
  (nat_lit 316, { cls := (T "function"), data := (fn [48] "place_of" 3 [] N N N (S "z80.files" 505) (R 315) N) }) ::
  (nat_lit 317, { cls := (T "tuple"), data := (sq [] 0) }) ::
  (nat_lit 320, { cls := (T "code"), data := (fl [(S "last_block" 621), (S "last_block" 622), (S "/claim/cut.py" 623), (I 198 0), (I 3 0), (I 0 0), (I 0 0), (I 3 0), (R 317), (.bool true), (I 181 0), (R 318), N, N, N, (R 319), (I 624 0), (I 198 0), (S "/claim/cut.py" 625)]) }) ::
  (nat_lit 321, { cls := (T "function"), data := (fn [49] "last_block" 3 [] N N N (S "z80.files" 505) (R 320) N) }) ::
  (nat_lit 322, { cls := (T "tuple"), data := (sq [] 0) }) ::
  (nat_lit 324, { cls := (T "tuple"), data := (sq [(S "disk" 630), (S "user" 631), (S "raw" 632), (S "record" 633), (S "extent" 634), (S "index" 635), (S "pair" 636), (S "block" 637)] 0) }) ::
  (nat_lit 325, { cls := (T "tuple"), data := (sq [] 0) }) ::
  (nat_lit 327, { cls := (T "code"), data := (fl [(S "read_at" 627), (S "read_at" 628), (S "/claim/cut.py" 629), (I 200 0), (I 4 0), (I 0 0), (I 0 0), (I 3 0), (R 322), (.bool true), (I 181 0), (R 323), N, (R 324), (R 325), (R 326), (I 638 0), (I 200 0), (S "/claim/cut.py" 639)]) }) ::
  (nat_lit 328, { cls := (T "function"), data := (fn [50] "read_at" 3 [] N N N (S "z80.files" 505) (R 327) N) }) ::
  (nat_lit 329, { cls := (T "tuple"), data := (sq [] 0) }) ::
  (nat_lit 331, { cls := (T "tuple"), data := (sq [(S "disk" 644), (S "user" 645), (S "raw" 646), (S "record" 647), (S "octets" 648), (S "extent" 649), (S "index" 650), (S "pair" 651), (S "number" 652), (S "entry" 653), (S "slot" 654)] 0) }) ::
  (nat_lit 332, { cls := (T "tuple"), data := (sq [] 0) }) ::
  (nat_lit 334, { cls := (T "code"), data := (fl [(S "write_at" 641), (S "write_at" 642), (S "/claim/cut.py" 643), (I 207 0), (I 5 0), (I 0 0), (I 0 0), (I 3 0), (R 329), (.bool true), (I 181 0), (R 330), N, (R 331), (R 332), (R 333), (I 655 0), (I 207 0), (S "/claim/cut.py" 656)]) }) ::
  (nat_lit 335, { cls := (T "function"), data := (fn [51] "write_at" 3 [] N N N (S "z80.files" 505) (R 334) N) }) ::
  (nat_lit 336, { cls := (T "tuple"), data := (sq [] 0) }) ::
  (nat_lit 338, { cls := (T "tuple"), data := (sq [(S "feed" 663), (S "many" 664), (S "cells" 665), (S "turn" 666)] 0) }) ::
  (nat_lit 339, { cls := (T "tuple"), data := (sq [] 0) }) ::
  (nat_lit 341, { cls := (T "code"), data := (fl [(S "_law_next" 660), (S "_law_next" 661), (S "/claim/cut.py" 662), (I 225 0), (I 2 0), (I 0 0), (I 0 0), (I 3 0), (R 336), (.bool true), (I 181 0), (R 337), N, (R 338), (R 339), (R 340), (I 667 0), (I 225 0), (S "/claim/cut.py" 668)]) }) ::
  (nat_lit 342, { cls := (T "function"), data := (fn [53] "_law_next" 3 [] N N N (S "law_tg0048_01" 658) (R 341) N) }) ::
  (nat_lit 343, { cls := (T "tuple"), data := (sq [] 0) }) ::
  (nat_lit 345, { cls := (T "tuple"), data := (sq [] 0) }) ::
  (nat_lit 346, { cls := (T "tuple"), data := (sq [] 0) }) ::
  (nat_lit 348, { cls := (T "code"), data := (fl [(S "_law_names" 670), (S "_law_names" 671), (S "/claim/cut.py" 672), (I 231 0), (I 0 0), (I 0 0), (I 0 0), (I 3 0), (R 343), (.bool true), (I 181 0), (R 344), N, (R 345), (R 346), (R 347), (I 673 0), (I 231 0), (S "/claim/cut.py" 674)]) }) ::
  (nat_lit 349, { cls := (T "function"), data := (fn [54] "_law_names" 3 [] N N N (S "law_tg0048_01" 658) (R 348) N) }) ::
  (nat_lit 350, { cls := (T "tuple"), data := (sq [] 0) }) ::
  (nat_lit 352, { cls := (T "tuple"), data := (sq [(S "work" 679), (S "e" 680)] 0) }) ::
  (nat_lit 353, { cls := (T "tuple"), data := (sq [] 0) }) ::
  (nat_lit 355, { cls := (T "code"), data := (fl [(S "_law_told" 676), (S "_law_told" 677), (S "/claim/cut.py" 678), (I 233 0), (I 1 0), (I 0 0), (I 0 0), (I 3 0), (R 350), (.bool true), (I 181 0), (R 351), N, (R 352), (R 353), (R 354), (I 681 0), (I 233 0), (S "/claim/cut.py" 682)]) }) ::
  (nat_lit 356, { cls := (T "function"), data := (fn [55] "_law_told" 3 [] N N N (S "law_tg0048_01" 658) (R 355) N) }) ::
  (nat_lit 357, { cls := (T "tuple"), data := (sq [] 0) }) ::
  (nat_lit 359, { cls := (T "tuple"), data := (sq [(S "disk" 687), (S "user" 688), (S "kind" 689), (S "raw" 690), (S "other" 691), (S "spot" 692), (S "octets" 693)] 0) }) ::
  (nat_lit 360, { cls := (T "tuple"), data := (sq [(S "disk" 694), (S "user" 695), (S "raw" 696), (S "other" 697), (S "spot" 698), (S "octets" 699), (S "flag" 700)] 0) }) ::
  (nat_lit 362, { cls := (T "code"), data := (fl [(S "_law_deed" 684), (S "_law_deed" 685), (S "/claim/cut.py" 686), (I 238 0), (I 7 0), (I 0 0), (I 0 0), (I 3 0), (R 357), (.bool true), (I 181 0), (R 358), N, (R 359), (R 360), (R 361), (I 701 0), (I 238 0), (S "/claim/cut.py" 702)]) }) ::
  (nat_lit 363, { cls := (T "function"), data := (fn [56] "_law_deed" 3 [] N N N (S "law_tg0048_01" 658) (R 362) N) }) ::
  (nat_lit 364, { cls := (T "tuple"), data := (sq [] 0) }) ::
  (nat_lit 367, { cls := (T "code"), data := (fl [(S "_law_exchanged" 704), (S "_law_exchanged" 705), (S "/claim/cut.py" 706), (I 249 0), (I 3 0), (I 0 0), (I 0 0), (I 3 0), (R 364), (.bool true), (I 181 0), (R 365), N, N, N, (R 366), (I 707 0), (I 249 0), (S "/claim/cut.py" 708)]) }) ::
  (nat_lit 368, { cls := (T "function"), data := (fn [57] "_law_exchanged" 3 [] N N N (S "law_tg0048_01" 658) (R 367) N) }) ::
  (nat_lit 369, { cls := (T "tuple"), data := (sq [] 0) }) ::
  (nat_lit 372, { cls := (T "code"), data := (fl [(S "law" 710), (S "law" 711), (S "/claim/cut.py" 712), (I 260 0), (I 1 0), (I 0 0), (I 0 0), (I 3 0), (R 369), (.bool true), (I 181 0), (R 370), N, N, N, (R 371), (I 713 0), (I 260 0), (S "/claim/cut.py" 714)]) }) ::
  (nat_lit 373, { cls := (T "function"), data := (fn [58] "law" 3 [] N N N (S "law_tg0048_01" 658) (R 372) N) }) :: []
noncomputable def ks : List Addr := [0, 2, 3, 15, 18, 23, 24, 26, 27, 29, 30, 31, 32, 33, 34, 44, 46, 47, 49, 50, 51, 52, 53, 54, 55, 65, 67, 68, 70, 71, 72, 73, 74, 75, 76, 79, 81, 82, 84, 85, 86, 88, 89, 91, 92, 93, 95, 96, 98, 99, 100, 102, 103, 105, 106, 107, 109, 110, 112, 113, 114, 116, 117, 119, 120, 121, 123, 124, 126, 127, 128, 130, 131, 133, 134, 135, 137, 138, 140, 141, 142, 144, 145, 147, 148, 149, 151, 152, 154, 155, 156, 158, 159, 161, 162, 163, 165, 166, 168, 169, 170, 172, 173, 175, 176, 177, 179, 180, 182, 183, 184, 187, 188, 189, 192, 193, 194, 196, 197, 199, 200, 201, 203, 204, 206, 207, 208, 210, 211, 213, 214, 215, 217, 218, 220, 221, 222, 224, 225, 227, 228, 229, 231, 232, 234, 235, 236, 239, 240, 241, 244, 245, 246, 248, 249, 251, 252, 253, 255, 256, 258, 259, 260, 262, 263, 265, 266, 267, 269, 270, 272, 273, 274, 276, 277, 279, 280, 281, 283, 284, 286, 287, 288, 291, 292, 293, 295, 296, 298, 299, 300, 303, 304, 305, 308, 309, 310, 312, 313, 315, 316, 317, 320, 321, 322, 324, 325, 327, 328, 329, 331, 332, 334, 335, 336, 338, 339, 341, 342, 343, 345, 346, 348, 349, 350, 352, 353, 355, 356, 357, 359, 360, 362, 363, 364, 367, 368, 369, 372, 373]
noncomputable def view_39 : Program := { pg with main := { pg.main with body := ((pg.main.body.eraseIdx 52).eraseIdx 33).eraseIdx 0 } }
noncomputable def lawRec : DefRec := match stAt pg.main.body [58] with
  | some (.FunctionDef name params body _ _ _ scope _ _ pos) => { name, params, body, scope, pos }
  | _ => ⟨s "", ⟨[], [], none, [], [], none, []⟩, [], pg.main.scope, default⟩
end Mine.hd
end
section
open PySem PySem.W PyProof.Rows
namespace Mine.hd
noncomputable def fin (P : Params) : Heap := ⟨Array.mk [
  PySem.W.boot_o_0 P,
  PySem.W.boot_o_1 P,
  { cls := N, data := (dc [(K P "type.__subclasses__.Exception.0" 228 (I 33 0)), (K P "type.__subclasses__.Exception.n" 229 (I 1 0))] 2) },
  { cls := (T "dict"), data := (dc [(K P "__name__" 165 (S "law_tg0048_01" 658)), (K P "__doc__" 166 N), (K P "__package__" 167 N), (K P "__loader__" 168 (B "__main__.__loader__#opaque")), (K P "__spec__" 169 N), (K P "__annotations__" 170 (R 6)), (K P "__builtins__" 171 (R 4)), (K P "__file__" 173 (S "/claim/cut.py" 172)), (K P "__cached__" 174 N), (K P "FREE" 190 (I 229 189)), (K P "ENTRY_SIZE" 192 (I 32 191)), (K P "NAME_SIZE" 194 (I 11 193)), (K P "MAP_AT" 196 (I 16 195)), (K P "MOST_RECORDS" 198 (I 128 197)), (K P "EXTENTS_LOW" 200 (I 32 199)), (K P "DiskError" 231 (R 33)), (K P "Disk" 269 (R 53)), (K P "Entry" 305 (R 74)), (K P "map_slots" 312 (R 85)), (K P "records_of_block" 319 (R 92)), (K P "records_of_extent" 326 (R 99)), (K P "directory_blocks" 333 (R 106)), (K P "need_writable" 340 (R 113)), (K P "new_entry" 351 (R 120)), (K P "entry_octets" 360 (R 127)), (K P "entry_from" 369 (R 134)), (K P "raw_entry" 377 (R 141)), (K P "read_entry" 385 (R 148)), (K P "write_entry" 394 (R 155)), (K P "put_entry" 405 (R 162)), (K P "erase_entry" 413 (R 169)), (K P "free_entry" 421 (R 176)), (K P "live_entries" 431 (R 183)), (K P "used_blocks" 437 (R 188)), (K P "map_of" 443 (R 193)), (K P "map_octets" 453 (R 200)), (K P "nearest_free" 463 (R 207)), (K P "allocate" 472 (R 214)), (K P "record_place" 481 (R 221)), (K P "read_record" 491 (R 228)), (K P "write_record" 504 (R 235)), (K P "ANY" 508 (I 63 507)), (K P "READ_ONLY_AT" 510 (I 8 509)), (K P "bare" 516 (R 240)), (K P "matches" 522 (R 245)), (K P "has_flag" 530 (R 252)), (K P "find" 542 (R 259)), (K P "find_extent" 553 (R 266)), (K P "exists" 562 (R 273)), (K P "make" 571 (R 280)), (K P "make_extent" 582 (R 287)), (K P "need_changeable" 588 (R 292)), (K P "delete" 600 (R 299)), (K P "rename" 606 (R 304)), (K P "set_attributes" 612 (R 309)), (K P "place_of" 620 (R 316)), (K P "last_block" 626 (R 321)), (K P "read_at" 640 (R 328)), (K P "write_at" 657 (R 335)), (K P "_law_next" 669 (R 342)), (K P "_law_names" 675 (R 349)), (K P "_law_told" 683 (R 356)), (K P "_law_deed" 703 (R 363)), (K P "_law_exchanged" 709 (R 368)), (K P "law" 715 (R 373))] 65) },
  PySem.W.boot_o_4 P,
  PySem.W.boot_o_5 P,
  PySem.W.boot_o_6 P,
  PySem.W.boot_o_7 P,
  PySem.W.boot_o_8 P,
  PySem.W.boot_o_9 P,
  PySem.W.boot_o_10 P,
  { cls := (T "tuple"), data := (sq [] 0) },
  { cls := N, data := (fl [(I 8 0), (I 0 0), (R 21), (I 13 0), (I 0 0), (R 42), (I 25 0), (I 0 0), (R 63), (I 34 0), (I 0 0), (R 84), (I 36 0), (I 0 0), (R 91), (I 38 0), (I 0 0), (R 98), (I 40 0), (I 0 0), (R 105), (I 42 0), (I 0 0), (R 112), (I 45 0), (I 0 0), (R 119), (I 49 0), (I 0 0), (R 126), (I 53 0), (I 0 0), (R 133), (I 61 0), (I 0 0), (R 140), (I 65 0), (I 0 0), (R 147), (I 67 0), (I 0 0), (R 154), (I 69 0), (I 0 0), (R 161), (I 74 0), (I 0 0), (R 168), (I 78 0), (I 0 0), (R 175), (I 83 0), (I 0 0), (R 182), (I 90 0), (I 0 0), (R 187), (I 97 0), (I 0 0), (R 192), (I 101 0), (I 0 0), (R 199), (I 108 0), (I 0 0), (R 206), (I 120 0), (I 0 0), (R 213), (I 125 0), (I 0 0), (R 220), (I 129 0), (I 0 0), (R 227), (I 132 0), (I 0 0), (R 234), (I 142 0), (I 0 0), (R 239), (I 144 0), (I 0 0), (R 244), (I 146 0), (I 0 0), (R 251), (I 148 0), (I 0 0), (R 258), (I 155 0), (I 0 0), (R 265), (I 160 0), (I 0 0), (R 272), (I 162 0), (I 0 0), (R 279), (I 164 0), (I 0 0), (R 286), (I 171 0), (I 0 0), (R 291), (I 174 0), (I 0 0), (R 298), (I 181 0), (I 0 0), (R 303), (I 189 0), (I 0 0), (R 308), (I 196 0), (I 0 0), (R 315), (I 198 0), (I 0 0), (R 320), (I 200 0), (I 0 0), (R 327), (I 207 0), (I 0 0), (R 334), (I 225 0), (I 0 0), (R 341), (I 231 0), (I 0 0), (R 348), (I 233 0), (I 0 0), (R 355), (I 238 0), (I 0 0), (R 362), (I 249 0), (I 0 0), (R 367), (I 260 0), (I 0 0), (R 372)]) },
  { cls := (T "code"), data := (fl [(S "<module>" 182), (S "<module>" 183), (S "/claim/cut.py" 184), (I 1 0), (I 0 0), (I 0 0), (I 0 0), (I 0 0), (R 11), (.bool false), (I 181 0), (R 12), N, N, N, N, (I 185 0), (I 1 0), (S "/claim/cut.py" 186)]) },
  { cls := (T "frame"), data := .plain, slots := #[some (R 13), some (R 3), some (R 3), none, some (S "__main__" 164), none, some (R 0)] },
  { cls := (T "tuple"), data := (sq [(T "Exception")] 0) },
  { cls := (T "builtin_function_or_method"), data := (fl [(B "type.__prepare__"), (T "type")]) },
  { cls := (T "dict"), data := (dc [(K P "__module__" 208 (S "z80.disk" 187)), (K P "__qualname__" 210 (S "DiskError" 209)), (K P "__firstlineno__" 212 (I 8 211)), (K P "__init__" 221 (R 30)), (K P "__static_attributes__" 223 (R 31)), (K P "__classcell__" 224 (R 18))] 6) },
  { cls := (T "cell"), data := (.cell (some (R 33))) },
  { cls := (T "tuple"), data := (sq [] 0) },
  { cls := N, data := (fl [(I 10 0), (I 4 0), (R 29)]) },
  { cls := (T "code"), data := (fl [(S "DiskError" 203), (S "DiskError" 204), (S "/claim/cut.py" 205), (I 8 0), (I 0 0), (I 0 0), (I 0 0), (I 0 0), (R 19), (.bool false), (I 181 0), (R 20), N, N, N, N, (I 206 0), (I 8 0), (S "/claim/cut.py" 207)]) },
  { cls := (T "frame"), data := .plain, slots := #[some (R 21), some (R 3), some (R 17), none, some (S "z80.disk" 187), none, some (R 0)] },
  { cls := (T "tuple"), data := (sq [(R 18)] 0) },
  { cls := (T "tuple"), data := (sq [(S "__class__" 216)] 0) },
  { cls := N, data := (fl []) },
  { cls := (T "tuple"), data := (sq [(S "self" 217), (S "word" 218)] 0) },
  { cls := (T "tuple"), data := (sq [] 0) },
  { cls := N, data := (fn [7, 0] "DiskError.__init__" 0 [] N N N N N N) },
  { cls := (T "code"), data := (fl [(S "__init__" 213), (S "DiskError.__init__" 214), (S "/claim/cut.py" 215), (I 10 0), (I 2 0), (I 0 0), (I 0 0), (I 3 0), (R 24), (.bool true), (I 181 0), (R 25), N, (R 26), (R 27), (R 28), (I 219 0), (I 10 0), (S "/claim/cut.py" 220)]) },
  { cls := (T "function"), data := (fn [7, 0] "DiskError.__init__" 3 [((s "__class__"), 18)] N N N (S "z80.disk" 187) (R 29) (R 23)) },
  { cls := (T "tuple"), data := (sq [(S "word" 222)] 0) },
  { cls := (T "dict"), data := (dc [(K P "__module__" 208 (S "z80.disk" 187)), (K P "__firstlineno__" 212 (I 8 211)), (K P "__init__" 221 (R 30)), (K P "__static_attributes__" 223 (R 31)), (K P "__weakref__" 226 (R 34)), (K P "__doc__" 227 N)] 4) },
  { cls := (T "type"), data := (.cls ⟨(s "DiskError"), [(T "Exception")], [(R 33), (T "Exception"), (T "BaseException"), (T "object")], 32, (s "DiskError"), true, [], [], false, none, false⟩), slots := #[some (R 15), none, some (S "DiskError" 201), some (S "DiskError" 209), some (B "Exception.__new__"), some (.bool true)] },
  { cls := (T "getset_descriptor"), data := (fl [(S "__weakref__" 225), (R 33), (B "ExceptionGroup.__weakref__"), N]) },
  { cls := (T "super"), data := (fl [(R 33), (R 33), (R 33)]) },
  { cls := (T "builtin_function_or_method"), data := (fl [(B "object.__init_subclass__"), (R 33)]) },
  { cls := (T "tuple"), data := (sq [] 0) },
  { cls := (T "builtin_function_or_method"), data := (fl [(B "type.__prepare__"), (T "type")]) },
  { cls := (T "dict"), data := (dc [(K P "__module__" 239 (S "z80.disk" 187)), (K P "__qualname__" 241 (S "Disk" 240)), (K P "__firstlineno__" 243 (I 13 242)), (K P "__init__" 254 (R 50)), (K P "__static_attributes__" 262 (R 51))] 5) },
  { cls := (T "tuple"), data := (sq [] 0) },
  { cls := N, data := (fl [(I 15 0), (I 4 0), (R 49)]) },
  { cls := (T "code"), data := (fl [(S "Disk" 234), (S "Disk" 235), (S "/claim/cut.py" 236), (I 13 0), (I 0 0), (I 0 0), (I 0 0), (I 0 0), (R 40), (.bool false), (I 181 0), (R 41), N, N, N, N, (I 237 0), (I 13 0), (S "/claim/cut.py" 238)]) },
  { cls := (T "frame"), data := .plain, slots := #[some (R 42), some (R 3), some (R 39), none, some (S "z80.disk" 187), none, some (R 0)] },
  { cls := (T "tuple"), data := (sq [] 0) },
  { cls := N, data := (fl []) },
  { cls := (T "tuple"), data := (sq [(S "self" 247), (S "blocks" 248), (S "block" 249), (S "record" 250), (S "entries" 251)] 0) },
  { cls := (T "tuple"), data := (sq [] 0) },
  { cls := N, data := (fn [8, 0] "Disk.__init__" 0 [] N N N N N N) },
  { cls := (T "code"), data := (fl [(S "__init__" 244), (S "Disk.__init__" 245), (S "/claim/cut.py" 246), (I 15 0), (I 5 0), (I 0 0), (I 0 0), (I 3 0), (R 44), (.bool true), (I 181 0), (R 45), N, (R 46), (R 47), (R 48), (I 252 0), (I 15 0), (S "/claim/cut.py" 253)]) },
  { cls := (T "function"), data := (fn [8, 0] "Disk.__init__" 3 [] N N N (S "z80.disk" 187) (R 49) N) },
  { cls := (T "tuple"), data := (sq [(S "block" 255), (S "blocks" 256), (S "data" 257), (S "entries" 258), (S "given" 259), (S "is_read_only" 260), (S "record" 261)] 0) },
  { cls := (T "dict"), data := (dc [(K P "__module__" 239 (S "z80.disk" 187)), (K P "__firstlineno__" 243 (I 13 242)), (K P "__init__" 254 (R 50)), (K P "__static_attributes__" 262 (R 51)), (K P "__dict__" 264 (R 54)), (K P "__weakref__" 266 (R 55)), (K P "__doc__" 267 N)] 4) },
  { cls := (T "type"), data := (.cls ⟨(s "Disk"), [(T "object")], [(R 53), (T "object")], 52, (s "Disk"), true, [], [], false, none, false⟩), slots := #[none, none, some (S "Disk" 232), some (S "Disk" 240), some (B "object.__new__"), some (.bool true)] },
  { cls := (T "getset_descriptor"), data := (fl [(S "__dict__" 263), (R 53), (B "function.__dict__"), (B "function.__dict__#set")]) },
  { cls := (T "getset_descriptor"), data := (fl [(S "__weakref__" 265), (R 53), (B "ExceptionGroup.__weakref__"), N]) },
  { cls := (T "super"), data := (fl [(R 53), (R 53), (R 53)]) },
  { cls := (T "builtin_function_or_method"), data := (fl [(B "object.__init_subclass__"), (R 53)]) },
  { cls := (T "tuple"), data := (sq [] 0) },
  { cls := (T "builtin_function_or_method"), data := (fl [(B "type.__prepare__"), (T "type")]) },
  { cls := (T "dict"), data := (dc [(K P "__module__" 277 (S "z80.disk" 187)), (K P "__qualname__" 279 (S "Entry" 278)), (K P "__firstlineno__" 281 (I 25 280)), (K P "__init__" 291 (R 71)), (K P "__static_attributes__" 298 (R 72))] 5) },
  { cls := (T "tuple"), data := (sq [] 0) },
  { cls := N, data := (fl [(I 27 0), (I 4 0), (R 70)]) },
  { cls := (T "code"), data := (fl [(S "Entry" 272), (S "Entry" 273), (S "/claim/cut.py" 274), (I 25 0), (I 0 0), (I 0 0), (I 0 0), (I 0 0), (R 61), (.bool false), (I 181 0), (R 62), N, N, N, N, (I 275 0), (I 25 0), (S "/claim/cut.py" 276)]) },
  { cls := (T "frame"), data := .plain, slots := #[some (R 63), some (R 3), some (R 60), none, some (S "z80.disk" 187), none, some (R 0)] },
  { cls := (T "tuple"), data := (sq [] 0) },
  { cls := N, data := (fl []) },
  { cls := (T "tuple"), data := (sq [(S "self" 285), (S "user" 286), (S "raw" 287), (S "extent" 288)] 0) },
  { cls := (T "tuple"), data := (sq [] 0) },
  { cls := N, data := (fn [9, 0] "Entry.__init__" 0 [] N N N N N N) },
  { cls := (T "code"), data := (fl [(S "__init__" 282), (S "Entry.__init__" 283), (S "/claim/cut.py" 284), (I 27 0), (I 4 0), (I 0 0), (I 0 0), (I 3 0), (R 65), (.bool true), (I 181 0), (R 66), N, (R 67), (R 68), (R 69), (I 289 0), (I 27 0), (S "/claim/cut.py" 290)]) },
  { cls := (T "function"), data := (fn [9, 0] "Entry.__init__" 3 [] N N N (S "z80.disk" 187) (R 70) N) },
  { cls := (T "tuple"), data := (sq [(S "count" 292), (S "extent" 293), (S "map" 294), (S "raw" 295), (S "spare" 296), (S "user" 297)] 0) },
  { cls := (T "dict"), data := (dc [(K P "__module__" 277 (S "z80.disk" 187)), (K P "__firstlineno__" 281 (I 25 280)), (K P "__init__" 291 (R 71)), (K P "__static_attributes__" 298 (R 72)), (K P "__dict__" 300 (R 75)), (K P "__weakref__" 302 (R 76)), (K P "__doc__" 303 N)] 4) },
  { cls := (T "type"), data := (.cls ⟨(s "Entry"), [(T "object")], [(R 74), (T "object")], 73, (s "Entry"), true, [], [], false, none, false⟩), slots := #[none, none, some (S "Entry" 270), some (S "Entry" 278), some (B "object.__new__"), some (.bool true)] },
  { cls := (T "getset_descriptor"), data := (fl [(S "__dict__" 299), (R 74), (B "function.__dict__"), (B "function.__dict__#set")]) },
  { cls := (T "getset_descriptor"), data := (fl [(S "__weakref__" 301), (R 74), (B "ExceptionGroup.__weakref__"), N]) },
  { cls := (T "super"), data := (fl [(R 74), (R 74), (R 74)]) },
  { cls := (T "builtin_function_or_method"), data := (fl [(B "object.__init_subclass__"), (R 74)]) },
  { cls := (T "tuple"), data := (sq [] 0) },
  { cls := N, data := (fl []) },
  { cls := (T "tuple"), data := (sq [(S "disk" 309)] 0) },
  { cls := (T "tuple"), data := (sq [] 0) },
  { cls := N, data := (fn [10] "map_slots" 0 [] N N N N N N) },
  { cls := (T "code"), data := (fl [(S "map_slots" 306), (S "map_slots" 307), (S "/claim/cut.py" 308), (I 34 0), (I 1 0), (I 0 0), (I 0 0), (I 3 0), (R 79), (.bool true), (I 181 0), (R 80), N, (R 81), (R 82), (R 83), (I 310 0), (I 34 0), (S "/claim/cut.py" 311)]) },
  { cls := (T "function"), data := (fn [10] "map_slots" 3 [] N N N (S "z80.disk" 187) (R 84) N) },
  { cls := (T "tuple"), data := (sq [] 0) },
  { cls := N, data := (fl []) },
  { cls := (T "tuple"), data := (sq [(S "disk" 316)] 0) },
  { cls := (T "tuple"), data := (sq [] 0) },
  { cls := N, data := (fn [11] "records_of_block" 0 [] N N N N N N) },
  { cls := (T "code"), data := (fl [(S "records_of_block" 313), (S "records_of_block" 314), (S "/claim/cut.py" 315), (I 36 0), (I 1 0), (I 0 0), (I 0 0), (I 3 0), (R 86), (.bool true), (I 181 0), (R 87), N, (R 88), (R 89), (R 90), (I 317 0), (I 36 0), (S "/claim/cut.py" 318)]) },
  { cls := (T "function"), data := (fn [11] "records_of_block" 3 [] N N N (S "z80.disk" 187) (R 91) N) },
  { cls := (T "tuple"), data := (sq [] 0) },
  { cls := N, data := (fl []) },
  { cls := (T "tuple"), data := (sq [(S "disk" 323)] 0) },
  { cls := (T "tuple"), data := (sq [] 0) },
  { cls := N, data := (fn [12] "records_of_extent" 0 [] N N N N N N) },
  { cls := (T "code"), data := (fl [(S "records_of_extent" 320), (S "records_of_extent" 321), (S "/claim/cut.py" 322), (I 38 0), (I 1 0), (I 0 0), (I 0 0), (I 3 0), (R 93), (.bool true), (I 181 0), (R 94), N, (R 95), (R 96), (R 97), (I 324 0), (I 38 0), (S "/claim/cut.py" 325)]) },
  { cls := (T "function"), data := (fn [12] "records_of_extent" 3 [] N N N (S "z80.disk" 187) (R 98) N) },
  { cls := (T "tuple"), data := (sq [] 0) },
  { cls := N, data := (fl []) },
  { cls := (T "tuple"), data := (sq [(S "disk" 330)] 0) },
  { cls := (T "tuple"), data := (sq [] 0) },
  { cls := N, data := (fn [13] "directory_blocks" 0 [] N N N N N N) },
  { cls := (T "code"), data := (fl [(S "directory_blocks" 327), (S "directory_blocks" 328), (S "/claim/cut.py" 329), (I 40 0), (I 1 0), (I 0 0), (I 0 0), (I 3 0), (R 100), (.bool true), (I 181 0), (R 101), N, (R 102), (R 103), (R 104), (I 331 0), (I 40 0), (S "/claim/cut.py" 332)]) },
  { cls := (T "function"), data := (fn [13] "directory_blocks" 3 [] N N N (S "z80.disk" 187) (R 105) N) },
  { cls := (T "tuple"), data := (sq [] 0) },
  { cls := N, data := (fl []) },
  { cls := (T "tuple"), data := (sq [(S "disk" 337)] 0) },
  { cls := (T "tuple"), data := (sq [] 0) },
  { cls := N, data := (fn [14] "need_writable" 0 [] N N N N N N) },
  { cls := (T "code"), data := (fl [(S "need_writable" 334), (S "need_writable" 335), (S "/claim/cut.py" 336), (I 42 0), (I 1 0), (I 0 0), (I 0 0), (I 3 0), (R 107), (.bool true), (I 181 0), (R 108), N, (R 109), (R 110), (R 111), (I 338 0), (I 42 0), (S "/claim/cut.py" 339)]) },
  { cls := (T "function"), data := (fn [14] "need_writable" 3 [] N N N (S "z80.disk" 187) (R 112) N) },
  { cls := (T "tuple"), data := (sq [] 0) },
  { cls := N, data := (fl []) },
  { cls := (T "tuple"), data := (sq [(S "disk" 344), (S "user" 345), (S "raw" 346), (S "extent" 347), (S "found" 348)] 0) },
  { cls := (T "tuple"), data := (sq [] 0) },
  { cls := N, data := (fn [15] "new_entry" 0 [] N N N N N N) },
  { cls := (T "code"), data := (fl [(S "new_entry" 341), (S "new_entry" 342), (S "/claim/cut.py" 343), (I 45 0), (I 4 0), (I 0 0), (I 0 0), (I 3 0), (R 114), (.bool true), (I 181 0), (R 115), N, (R 116), (R 117), (R 118), (I 349 0), (I 45 0), (S "/claim/cut.py" 350)]) },
  { cls := (T "function"), data := (fn [15] "new_entry" 3 [] N N N (S "z80.disk" 187) (R 119) N) },
  { cls := (T "tuple"), data := (sq [] 0) },
  { cls := N, data := (fl []) },
  { cls := (T "tuple"), data := (sq [(S "disk" 355), (S "entry" 356), (S "found" 357)] 0) },
  { cls := (T "tuple"), data := (sq [] 0) },
  { cls := N, data := (fn [16] "entry_octets" 0 [] N N N N N N) },
  { cls := (T "code"), data := (fl [(S "entry_octets" 352), (S "entry_octets" 353), (S "/claim/cut.py" 354), (I 49 0), (I 2 0), (I 0 0), (I 0 0), (I 3 0), (R 121), (.bool true), (I 181 0), (R 122), N, (R 123), (R 124), (R 125), (I 358 0), (I 49 0), (S "/claim/cut.py" 359)]) },
  { cls := (T "function"), data := (fn [16] "entry_octets" 3 [] N N N (S "z80.disk" 187) (R 126) N) },
  { cls := (T "tuple"), data := (sq [] 0) },
  { cls := N, data := (fl []) },
  { cls := (T "tuple"), data := (sq [(S "disk" 364), (S "octets" 365), (S "found" 366)] 0) },
  { cls := (T "tuple"), data := (sq [] 0) },
  { cls := N, data := (fn [17] "entry_from" 0 [] N N N N N N) },
  { cls := (T "code"), data := (fl [(S "entry_from" 361), (S "entry_from" 362), (S "/claim/cut.py" 363), (I 53 0), (I 2 0), (I 0 0), (I 0 0), (I 3 0), (R 128), (.bool true), (I 181 0), (R 129), N, (R 130), (R 131), (R 132), (I 367 0), (I 53 0), (S "/claim/cut.py" 368)]) },
  { cls := (T "function"), data := (fn [17] "entry_from" 3 [] N N N (S "z80.disk" 187) (R 133) N) },
  { cls := (T "tuple"), data := (sq [] 0) },
  { cls := N, data := (fl []) },
  { cls := (T "tuple"), data := (sq [(S "disk" 373), (S "number" 374)] 0) },
  { cls := (T "tuple"), data := (sq [] 0) },
  { cls := N, data := (fn [18] "raw_entry" 0 [] N N N N N N) },
  { cls := (T "code"), data := (fl [(S "raw_entry" 370), (S "raw_entry" 371), (S "/claim/cut.py" 372), (I 61 0), (I 2 0), (I 0 0), (I 0 0), (I 3 0), (R 135), (.bool true), (I 181 0), (R 136), N, (R 137), (R 138), (R 139), (I 375 0), (I 61 0), (S "/claim/cut.py" 376)]) },
  { cls := (T "function"), data := (fn [18] "raw_entry" 3 [] N N N (S "z80.disk" 187) (R 140) N) },
  { cls := (T "tuple"), data := (sq [] 0) },
  { cls := N, data := (fl []) },
  { cls := (T "tuple"), data := (sq [(S "disk" 381), (S "number" 382)] 0) },
  { cls := (T "tuple"), data := (sq [] 0) },
  { cls := N, data := (fn [19] "read_entry" 0 [] N N N N N N) },
  { cls := (T "code"), data := (fl [(S "read_entry" 378), (S "read_entry" 379), (S "/claim/cut.py" 380), (I 65 0), (I 2 0), (I 0 0), (I 0 0), (I 3 0), (R 142), (.bool true), (I 181 0), (R 143), N, (R 144), (R 145), (R 146), (I 383 0), (I 65 0), (S "/claim/cut.py" 384)]) },
  { cls := (T "function"), data := (fn [19] "read_entry" 3 [] N N N (S "z80.disk" 187) (R 147) N) },
  { cls := (T "tuple"), data := (sq [] 0) },
  { cls := N, data := (fl []) },
  { cls := (T "tuple"), data := (sq [(S "disk" 389), (S "number" 390), (S "entry" 391)] 0) },
  { cls := (T "tuple"), data := (sq [] 0) },
  { cls := N, data := (fn [20] "write_entry" 0 [] N N N N N N) },
  { cls := (T "code"), data := (fl [(S "write_entry" 386), (S "write_entry" 387), (S "/claim/cut.py" 388), (I 67 0), (I 3 0), (I 0 0), (I 0 0), (I 3 0), (R 149), (.bool true), (I 181 0), (R 150), N, (R 151), (R 152), (R 153), (I 392 0), (I 67 0), (S "/claim/cut.py" 393)]) },
  { cls := (T "function"), data := (fn [20] "write_entry" 3 [] N N N (S "z80.disk" 187) (R 154) N) },
  { cls := (T "tuple"), data := (sq [] 0) },
  { cls := N, data := (fl []) },
  { cls := (T "tuple"), data := (sq [(S "disk" 398), (S "number" 399), (S "octets" 400), (S "at" 401), (S "octet" 402)] 0) },
  { cls := (T "tuple"), data := (sq [] 0) },
  { cls := N, data := (fn [21] "put_entry" 0 [] N N N N N N) },
  { cls := (T "code"), data := (fl [(S "put_entry" 395), (S "put_entry" 396), (S "/claim/cut.py" 397), (I 69 0), (I 3 0), (I 0 0), (I 0 0), (I 3 0), (R 156), (.bool true), (I 181 0), (R 157), N, (R 158), (R 159), (R 160), (I 403 0), (I 69 0), (S "/claim/cut.py" 404)]) },
  { cls := (T "function"), data := (fn [21] "put_entry" 3 [] N N N (S "z80.disk" 187) (R 161) N) },
  { cls := (T "tuple"), data := (sq [] 0) },
  { cls := N, data := (fl []) },
  { cls := (T "tuple"), data := (sq [(S "disk" 409), (S "number" 410)] 0) },
  { cls := (T "tuple"), data := (sq [] 0) },
  { cls := N, data := (fn [22] "erase_entry" 0 [] N N N N N N) },
  { cls := (T "code"), data := (fl [(S "erase_entry" 406), (S "erase_entry" 407), (S "/claim/cut.py" 408), (I 74 0), (I 2 0), (I 0 0), (I 0 0), (I 3 0), (R 163), (.bool true), (I 181 0), (R 164), N, (R 165), (R 166), (R 167), (I 411 0), (I 74 0), (S "/claim/cut.py" 412)]) },
  { cls := (T "function"), data := (fn [22] "erase_entry" 3 [] N N N (S "z80.disk" 187) (R 168) N) },
  { cls := (T "tuple"), data := (sq [] 0) },
  { cls := N, data := (fl []) },
  { cls := (T "tuple"), data := (sq [(S "disk" 417), (S "number" 418)] 0) },
  { cls := (T "tuple"), data := (sq [] 0) },
  { cls := N, data := (fn [23] "free_entry" 0 [] N N N N N N) },
  { cls := (T "code"), data := (fl [(S "free_entry" 414), (S "free_entry" 415), (S "/claim/cut.py" 416), (I 78 0), (I 1 0), (I 0 0), (I 0 0), (I 3 0), (R 170), (.bool true), (I 181 0), (R 171), N, (R 172), (R 173), (R 174), (I 419 0), (I 78 0), (S "/claim/cut.py" 420)]) },
  { cls := (T "function"), data := (fn [23] "free_entry" 3 [] N N N (S "z80.disk" 187) (R 175) N) },
  { cls := (T "tuple"), data := (sq [] 0) },
  { cls := N, data := (fl []) },
  { cls := (T "tuple"), data := (sq [(S "disk" 425), (S "found" 426), (S "number" 427), (S "entry" 428)] 0) },
  { cls := (T "tuple"), data := (sq [] 0) },
  { cls := N, data := (fn [24] "live_entries" 0 [] N N N N N N) },
  { cls := (T "code"), data := (fl [(S "live_entries" 422), (S "live_entries" 423), (S "/claim/cut.py" 424), (I 83 0), (I 1 0), (I 0 0), (I 0 0), (I 3 0), (R 177), (.bool true), (I 181 0), (R 178), N, (R 179), (R 180), (R 181), (I 429 0), (I 83 0), (S "/claim/cut.py" 430)]) },
  { cls := (T "function"), data := (fn [24] "live_entries" 3 [] N N N (S "z80.disk" 187) (R 182) N) },
  { cls := (T "tuple"), data := (sq [] 0) },
  { cls := N, data := (fl []) },
  { cls := N, data := (fn [25] "used_blocks" 0 [] N N N N N N) },
  { cls := (T "code"), data := (fl [(S "used_blocks" 432), (S "used_blocks" 433), (S "/claim/cut.py" 434), (I 90 0), (I 1 0), (I 0 0), (I 0 0), (I 3 0), (R 184), (.bool true), (I 181 0), (R 185), N, N, N, (R 186), (I 435 0), (I 90 0), (S "/claim/cut.py" 436)]) },
  { cls := (T "function"), data := (fn [25] "used_blocks" 3 [] N N N (S "z80.disk" 187) (R 187) N) },
  { cls := (T "tuple"), data := (sq [] 0) },
  { cls := N, data := (fl []) },
  { cls := N, data := (fn [26] "map_of" 0 [] N N N N N N) },
  { cls := (T "code"), data := (fl [(S "map_of" 438), (S "map_of" 439), (S "/claim/cut.py" 440), (I 97 0), (I 2 0), (I 0 0), (I 0 0), (I 3 0), (R 189), (.bool true), (I 181 0), (R 190), N, N, N, (R 191), (I 441 0), (I 97 0), (S "/claim/cut.py" 442)]) },
  { cls := (T "function"), data := (fn [26] "map_of" 3 [] N N N (S "z80.disk" 187) (R 192) N) },
  { cls := (T "tuple"), data := (sq [] 0) },
  { cls := N, data := (fl []) },
  { cls := (T "tuple"), data := (sq [(S "disk" 447), (S "blocks" 448), (S "found" 449), (S "block" 450)] 0) },
  { cls := (T "tuple"), data := (sq [] 0) },
  { cls := N, data := (fn [27] "map_octets" 0 [] N N N N N N) },
  { cls := (T "code"), data := (fl [(S "map_octets" 444), (S "map_octets" 445), (S "/claim/cut.py" 446), (I 101 0), (I 2 0), (I 0 0), (I 0 0), (I 3 0), (R 194), (.bool true), (I 181 0), (R 195), N, (R 196), (R 197), (R 198), (I 451 0), (I 101 0), (S "/claim/cut.py" 452)]) },
  { cls := (T "function"), data := (fn [27] "map_octets" 3 [] N N N (S "z80.disk" 187) (R 199) N) },
  { cls := (T "tuple"), data := (sq [] 0) },
  { cls := N, data := (fl []) },
  { cls := (T "tuple"), data := (sq [(S "is_used" 457), (S "near" 458), (S "left" 459), (S "right" 460)] 0) },
  { cls := (T "tuple"), data := (sq [] 0) },
  { cls := N, data := (fn [28] "nearest_free" 0 [] N N N N N N) },
  { cls := (T "code"), data := (fl [(S "nearest_free" 454), (S "nearest_free" 455), (S "/claim/cut.py" 456), (I 108 0), (I 2 0), (I 0 0), (I 0 0), (I 3 0), (R 201), (.bool true), (I 181 0), (R 202), N, (R 203), (R 204), (R 205), (I 461 0), (I 108 0), (S "/claim/cut.py" 462)]) },
  { cls := (T "function"), data := (fn [28] "nearest_free" 3 [] N N N (S "z80.disk" 187) (R 206) N) },
  { cls := (T "tuple"), data := (sq [] 0) },
  { cls := N, data := (fl []) },
  { cls := (T "tuple"), data := (sq [(S "disk" 467), (S "near" 468), (S "found" 469)] 0) },
  { cls := (T "tuple"), data := (sq [] 0) },
  { cls := N, data := (fn [29] "allocate" 0 [] N N N N N N) },
  { cls := (T "code"), data := (fl [(S "allocate" 464), (S "allocate" 465), (S "/claim/cut.py" 466), (I 120 0), (I 2 0), (I 0 0), (I 0 0), (I 3 0), (R 208), (.bool true), (I 181 0), (R 209), N, (R 210), (R 211), (R 212), (I 470 0), (I 120 0), (S "/claim/cut.py" 471)]) },
  { cls := (T "function"), data := (fn [29] "allocate" 3 [] N N N (S "z80.disk" 187) (R 213) N) },
  { cls := (T "tuple"), data := (sq [] 0) },
  { cls := N, data := (fl []) },
  { cls := (T "tuple"), data := (sq [(S "disk" 476), (S "block" 477), (S "index" 478)] 0) },
  { cls := (T "tuple"), data := (sq [] 0) },
  { cls := N, data := (fn [30] "record_place" 0 [] N N N N N N) },
  { cls := (T "code"), data := (fl [(S "record_place" 473), (S "record_place" 474), (S "/claim/cut.py" 475), (I 125 0), (I 3 0), (I 0 0), (I 0 0), (I 3 0), (R 215), (.bool true), (I 181 0), (R 216), N, (R 217), (R 218), (R 219), (I 479 0), (I 125 0), (S "/claim/cut.py" 480)]) },
  { cls := (T "function"), data := (fn [30] "record_place" 3 [] N N N (S "z80.disk" 187) (R 220) N) },
  { cls := (T "tuple"), data := (sq [] 0) },
  { cls := N, data := (fl []) },
  { cls := (T "tuple"), data := (sq [(S "disk" 485), (S "block" 486), (S "index" 487), (S "begin" 488)] 0) },
  { cls := (T "tuple"), data := (sq [] 0) },
  { cls := N, data := (fn [31] "read_record" 0 [] N N N N N N) },
  { cls := (T "code"), data := (fl [(S "read_record" 482), (S "read_record" 483), (S "/claim/cut.py" 484), (I 129 0), (I 3 0), (I 0 0), (I 0 0), (I 3 0), (R 222), (.bool true), (I 181 0), (R 223), N, (R 224), (R 225), (R 226), (I 489 0), (I 129 0), (S "/claim/cut.py" 490)]) },
  { cls := (T "function"), data := (fn [31] "read_record" 3 [] N N N (S "z80.disk" 187) (R 227) N) },
  { cls := (T "tuple"), data := (sq [] 0) },
  { cls := N, data := (fl []) },
  { cls := (T "tuple"), data := (sq [(S "disk" 495), (S "block" 496), (S "index" 497), (S "octets" 498), (S "begin" 499), (S "at" 500), (S "octet" 501)] 0) },
  { cls := (T "tuple"), data := (sq [] 0) },
  { cls := N, data := (fn [32] "write_record" 0 [] N N N N N N) },
  { cls := (T "code"), data := (fl [(S "write_record" 492), (S "write_record" 493), (S "/claim/cut.py" 494), (I 132 0), (I 4 0), (I 0 0), (I 0 0), (I 3 0), (R 229), (.bool true), (I 181 0), (R 230), N, (R 231), (R 232), (R 233), (I 502 0), (I 132 0), (S "/claim/cut.py" 503)]) },
  { cls := (T "function"), data := (fn [32] "write_record" 3 [] N N N (S "z80.disk" 187) (R 234) N) },
  { cls := (T "tuple"), data := (sq [] 0) },
  { cls := N, data := (fl []) },
  { cls := N, data := (fn [36] "bare" 0 [] N N N N N N) },
  { cls := (T "code"), data := (fl [(S "bare" 511), (S "bare" 512), (S "/claim/cut.py" 513), (I 142 0), (I 1 0), (I 0 0), (I 0 0), (I 3 0), (R 236), (.bool true), (I 181 0), (R 237), N, N, N, (R 238), (I 514 0), (I 142 0), (S "/claim/cut.py" 515)]) },
  { cls := (T "function"), data := (fn [36] "bare" 3 [] N N N (S "z80.files" 505) (R 239) N) },
  { cls := (T "tuple"), data := (sq [] 0) },
  { cls := N, data := (fl []) },
  { cls := N, data := (fn [37] "matches" 0 [] N N N N N N) },
  { cls := (T "code"), data := (fl [(S "matches" 517), (S "matches" 518), (S "/claim/cut.py" 519), (I 144 0), (I 2 0), (I 0 0), (I 0 0), (I 3 0), (R 241), (.bool true), (I 181 0), (R 242), N, N, N, (R 243), (I 520 0), (I 144 0), (S "/claim/cut.py" 521)]) },
  { cls := (T "function"), data := (fn [37] "matches" 3 [] N N N (S "z80.files" 505) (R 244) N) },
  { cls := (T "tuple"), data := (sq [] 0) },
  { cls := N, data := (fl []) },
  { cls := (T "tuple"), data := (sq [(S "raw" 526), (S "at" 527)] 0) },
  { cls := (T "tuple"), data := (sq [] 0) },
  { cls := N, data := (fn [38] "has_flag" 0 [] N N N N N N) },
  { cls := (T "code"), data := (fl [(S "has_flag" 523), (S "has_flag" 524), (S "/claim/cut.py" 525), (I 146 0), (I 2 0), (I 0 0), (I 0 0), (I 3 0), (R 246), (.bool true), (I 181 0), (R 247), N, (R 248), (R 249), (R 250), (I 528 0), (I 146 0), (S "/claim/cut.py" 529)]) },
  { cls := (T "function"), data := (fn [38] "has_flag" 3 [] N N N (S "z80.files" 505) (R 251) N) },
  { cls := (T "tuple"), data := (sq [] 0) },
  { cls := N, data := (fl []) },
  { cls := (T "tuple"), data := (sq [(S "disk" 534), (S "user" 535), (S "pattern" 536), (S "found" 537), (S "number" 538), (S "octets" 539)] 0) },
  { cls := (T "tuple"), data := (sq [] 0) },
  { cls := N, data := (fn [39] "find" 0 [] N N N N N N) },
  { cls := (T "code"), data := (fl [(S "find" 531), (S "find" 532), (S "/claim/cut.py" 533), (I 148 0), (I 3 0), (I 0 0), (I 0 0), (I 3 0), (R 253), (.bool true), (I 181 0), (R 254), N, (R 255), (R 256), (R 257), (I 540 0), (I 148 0), (S "/claim/cut.py" 541)]) },
  { cls := (T "function"), data := (fn [39] "find" 3 [] N N N (S "z80.files" 505) (R 258) N) },
  { cls := (T "tuple"), data := (sq [] 0) },
  { cls := N, data := (fl []) },
  { cls := (T "tuple"), data := (sq [(S "disk" 546), (S "user" 547), (S "raw" 548), (S "extent" 549), (S "pair" 550)] 0) },
  { cls := (T "tuple"), data := (sq [] 0) },
  { cls := N, data := (fn [40] "find_extent" 0 [] N N N N N N) },
  { cls := (T "code"), data := (fl [(S "find_extent" 543), (S "find_extent" 544), (S "/claim/cut.py" 545), (I 155 0), (I 4 0), (I 0 0), (I 0 0), (I 3 0), (R 260), (.bool true), (I 181 0), (R 261), N, (R 262), (R 263), (R 264), (I 551 0), (I 155 0), (S "/claim/cut.py" 552)]) },
  { cls := (T "function"), data := (fn [40] "find_extent" 3 [] N N N (S "z80.files" 505) (R 265) N) },
  { cls := (T "tuple"), data := (sq [] 0) },
  { cls := N, data := (fl []) },
  { cls := (T "tuple"), data := (sq [(S "disk" 557), (S "user" 558), (S "raw" 559)] 0) },
  { cls := (T "tuple"), data := (sq [] 0) },
  { cls := N, data := (fn [41] "exists" 0 [] N N N N N N) },
  { cls := (T "code"), data := (fl [(S "exists" 554), (S "exists" 555), (S "/claim/cut.py" 556), (I 160 0), (I 3 0), (I 0 0), (I 0 0), (I 3 0), (R 267), (.bool true), (I 181 0), (R 268), N, (R 269), (R 270), (R 271), (I 560 0), (I 160 0), (S "/claim/cut.py" 561)]) },
  { cls := (T "function"), data := (fn [41] "exists" 3 [] N N N (S "z80.files" 505) (R 272) N) },
  { cls := (T "tuple"), data := (sq [] 0) },
  { cls := N, data := (fl []) },
  { cls := (T "tuple"), data := (sq [(S "disk" 566), (S "user" 567), (S "raw" 568)] 0) },
  { cls := (T "tuple"), data := (sq [] 0) },
  { cls := N, data := (fn [42] "make" 0 [] N N N N N N) },
  { cls := (T "code"), data := (fl [(S "make" 563), (S "make" 564), (S "/claim/cut.py" 565), (I 162 0), (I 3 0), (I 0 0), (I 0 0), (I 3 0), (R 274), (.bool true), (I 181 0), (R 275), N, (R 276), (R 277), (R 278), (I 569 0), (I 162 0), (S "/claim/cut.py" 570)]) },
  { cls := (T "function"), data := (fn [42] "make" 3 [] N N N (S "z80.files" 505) (R 279) N) },
  { cls := (T "tuple"), data := (sq [] 0) },
  { cls := N, data := (fl []) },
  { cls := (T "tuple"), data := (sq [(S "disk" 575), (S "user" 576), (S "raw" 577), (S "extent" 578), (S "number" 579)] 0) },
  { cls := (T "tuple"), data := (sq [] 0) },
  { cls := N, data := (fn [43] "make_extent" 0 [] N N N N N N) },
  { cls := (T "code"), data := (fl [(S "make_extent" 572), (S "make_extent" 573), (S "/claim/cut.py" 574), (I 164 0), (I 4 0), (I 0 0), (I 0 0), (I 3 0), (R 281), (.bool true), (I 181 0), (R 282), N, (R 283), (R 284), (R 285), (I 580 0), (I 164 0), (S "/claim/cut.py" 581)]) },
  { cls := (T "function"), data := (fn [43] "make_extent" 3 [] N N N (S "z80.files" 505) (R 286) N) },
  { cls := (T "tuple"), data := (sq [] 0) },
  { cls := N, data := (fl []) },
  { cls := N, data := (fn [44] "need_changeable" 0 [] N N N N N N) },
  { cls := (T "code"), data := (fl [(S "need_changeable" 583), (S "need_changeable" 584), (S "/claim/cut.py" 585), (I 171 0), (I 1 0), (I 0 0), (I 0 0), (I 3 0), (R 288), (.bool true), (I 181 0), (R 289), N, N, N, (R 290), (I 586 0), (I 171 0), (S "/claim/cut.py" 587)]) },
  { cls := (T "function"), data := (fn [44] "need_changeable" 3 [] N N N (S "z80.files" 505) (R 291) N) },
  { cls := (T "tuple"), data := (sq [] 0) },
  { cls := N, data := (fl []) },
  { cls := (T "tuple"), data := (sq [(S "disk" 592), (S "user" 593), (S "pattern" 594), (S "pairs" 595), (S "number" 596), (S "entry" 597)] 0) },
  { cls := (T "tuple"), data := (sq [] 0) },
  { cls := N, data := (fn [45] "delete" 0 [] N N N N N N) },
  { cls := (T "code"), data := (fl [(S "delete" 589), (S "delete" 590), (S "/claim/cut.py" 591), (I 174 0), (I 3 0), (I 0 0), (I 0 0), (I 3 0), (R 293), (.bool true), (I 181 0), (R 294), N, (R 295), (R 296), (R 297), (I 598 0), (I 174 0), (S "/claim/cut.py" 599)]) },
  { cls := (T "function"), data := (fn [45] "delete" 3 [] N N N (S "z80.files" 505) (R 298) N) },
  { cls := (T "tuple"), data := (sq [] 0) },
  { cls := N, data := (fl []) },
  { cls := N, data := (fn [46] "rename" 0 [] N N N N N N) },
  { cls := (T "code"), data := (fl [(S "rename" 601), (S "rename" 602), (S "/claim/cut.py" 603), (I 181 0), (I 4 0), (I 0 0), (I 0 0), (I 3 0), (R 300), (.bool true), (I 181 0), (R 301), N, N, N, (R 302), (I 604 0), (I 181 0), (S "/claim/cut.py" 605)]) },
  { cls := (T "function"), data := (fn [46] "rename" 3 [] N N N (S "z80.files" 505) (R 303) N) },
  { cls := (T "tuple"), data := (sq [] 0) },
  { cls := N, data := (fl []) },
  { cls := N, data := (fn [47] "set_attributes" 0 [] N N N N N N) },
  { cls := (T "code"), data := (fl [(S "set_attributes" 607), (S "set_attributes" 608), (S "/claim/cut.py" 609), (I 189 0), (I 3 0), (I 0 0), (I 0 0), (I 3 0), (R 305), (.bool true), (I 181 0), (R 306), N, N, N, (R 307), (I 610 0), (I 189 0), (S "/claim/cut.py" 611)]) },
  { cls := (T "function"), data := (fn [47] "set_attributes" 3 [] N N N (S "z80.files" 505) (R 308) N) },
  { cls := (T "tuple"), data := (sq [] 0) },
  { cls := N, data := (fl []) },
  { cls := (T "tuple"), data := (sq [(S "disk" 616), (S "record" 617)] 0) },
  { cls := (T "tuple"), data := (sq [] 0) },
  { cls := N, data := (fn [48] "place_of" 0 [] N N N N N N) },
  { cls := (T "code"), data := (fl [(S "place_of" 613), (S "place_of" 614), (S "/claim/cut.py" 615), (I 196 0), (I 2 0), (I 0 0), (I 0 0), (I 3 0), (R 310), (.bool true), (I 181 0), (R 311), N, (R 312), (R 313), (R 314), (I 618 0), (I 196 0), (S "/claim/cut.py" 619)]) },
  { cls := (T "function"), data := (fn [48] "place_of" 3 [] N N N (S "z80.files" 505) (R 315) N) },
  { cls := (T "tuple"), data := (sq [] 0) },
  { cls := N, data := (fl []) },
  { cls := N, data := (fn [49] "last_block" 0 [] N N N N N N) },
  { cls := (T "code"), data := (fl [(S "last_block" 621), (S "last_block" 622), (S "/claim/cut.py" 623), (I 198 0), (I 3 0), (I 0 0), (I 0 0), (I 3 0), (R 317), (.bool true), (I 181 0), (R 318), N, N, N, (R 319), (I 624 0), (I 198 0), (S "/claim/cut.py" 625)]) },
  { cls := (T "function"), data := (fn [49] "last_block" 3 [] N N N (S "z80.files" 505) (R 320) N) },
  { cls := (T "tuple"), data := (sq [] 0) },
  { cls := N, data := (fl []) },
  { cls := (T "tuple"), data := (sq [(S "disk" 630), (S "user" 631), (S "raw" 632), (S "record" 633), (S "extent" 634), (S "index" 635), (S "pair" 636), (S "block" 637)] 0) },
  { cls := (T "tuple"), data := (sq [] 0) },
  { cls := N, data := (fn [50] "read_at" 0 [] N N N N N N) },
  { cls := (T "code"), data := (fl [(S "read_at" 627), (S "read_at" 628), (S "/claim/cut.py" 629), (I 200 0), (I 4 0), (I 0 0), (I 0 0), (I 3 0), (R 322), (.bool true), (I 181 0), (R 323), N, (R 324), (R 325), (R 326), (I 638 0), (I 200 0), (S "/claim/cut.py" 639)]) },
  { cls := (T "function"), data := (fn [50] "read_at" 3 [] N N N (S "z80.files" 505) (R 327) N) },
  { cls := (T "tuple"), data := (sq [] 0) },
  { cls := N, data := (fl []) },
  { cls := (T "tuple"), data := (sq [(S "disk" 644), (S "user" 645), (S "raw" 646), (S "record" 647), (S "octets" 648), (S "extent" 649), (S "index" 650), (S "pair" 651), (S "number" 652), (S "entry" 653), (S "slot" 654)] 0) },
  { cls := (T "tuple"), data := (sq [] 0) },
  { cls := N, data := (fn [51] "write_at" 0 [] N N N N N N) },
  { cls := (T "code"), data := (fl [(S "write_at" 641), (S "write_at" 642), (S "/claim/cut.py" 643), (I 207 0), (I 5 0), (I 0 0), (I 0 0), (I 3 0), (R 329), (.bool true), (I 181 0), (R 330), N, (R 331), (R 332), (R 333), (I 655 0), (I 207 0), (S "/claim/cut.py" 656)]) },
  { cls := (T "function"), data := (fn [51] "write_at" 3 [] N N N (S "z80.files" 505) (R 334) N) },
  { cls := (T "tuple"), data := (sq [] 0) },
  { cls := N, data := (fl []) },
  { cls := (T "tuple"), data := (sq [(S "feed" 663), (S "many" 664), (S "cells" 665), (S "turn" 666)] 0) },
  { cls := (T "tuple"), data := (sq [] 0) },
  { cls := N, data := (fn [53] "_law_next" 0 [] N N N N N N) },
  { cls := (T "code"), data := (fl [(S "_law_next" 660), (S "_law_next" 661), (S "/claim/cut.py" 662), (I 225 0), (I 2 0), (I 0 0), (I 0 0), (I 3 0), (R 336), (.bool true), (I 181 0), (R 337), N, (R 338), (R 339), (R 340), (I 667 0), (I 225 0), (S "/claim/cut.py" 668)]) },
  { cls := (T "function"), data := (fn [53] "_law_next" 3 [] N N N (S "law_tg0048_01" 658) (R 341) N) },
  { cls := (T "tuple"), data := (sq [] 0) },
  { cls := N, data := (fl []) },
  { cls := (T "tuple"), data := (sq [] 0) },
  { cls := (T "tuple"), data := (sq [] 0) },
  { cls := N, data := (fn [54] "_law_names" 0 [] N N N N N N) },
  { cls := (T "code"), data := (fl [(S "_law_names" 670), (S "_law_names" 671), (S "/claim/cut.py" 672), (I 231 0), (I 0 0), (I 0 0), (I 0 0), (I 3 0), (R 343), (.bool true), (I 181 0), (R 344), N, (R 345), (R 346), (R 347), (I 673 0), (I 231 0), (S "/claim/cut.py" 674)]) },
  { cls := (T "function"), data := (fn [54] "_law_names" 3 [] N N N (S "law_tg0048_01" 658) (R 348) N) },
  { cls := (T "tuple"), data := (sq [] 0) },
  { cls := N, data := (fl []) },
  { cls := (T "tuple"), data := (sq [(S "work" 679), (S "e" 680)] 0) },
  { cls := (T "tuple"), data := (sq [] 0) },
  { cls := N, data := (fn [55] "_law_told" 0 [] N N N N N N) },
  { cls := (T "code"), data := (fl [(S "_law_told" 676), (S "_law_told" 677), (S "/claim/cut.py" 678), (I 233 0), (I 1 0), (I 0 0), (I 0 0), (I 3 0), (R 350), (.bool true), (I 181 0), (R 351), N, (R 352), (R 353), (R 354), (I 681 0), (I 233 0), (S "/claim/cut.py" 682)]) },
  { cls := (T "function"), data := (fn [55] "_law_told" 3 [] N N N (S "law_tg0048_01" 658) (R 355) N) },
  { cls := (T "tuple"), data := (sq [] 0) },
  { cls := N, data := (fl []) },
  { cls := (T "tuple"), data := (sq [(S "disk" 687), (S "user" 688), (S "kind" 689), (S "raw" 690), (S "other" 691), (S "spot" 692), (S "octets" 693)] 0) },
  { cls := (T "tuple"), data := (sq [(S "disk" 694), (S "user" 695), (S "raw" 696), (S "other" 697), (S "spot" 698), (S "octets" 699), (S "flag" 700)] 0) },
  { cls := N, data := (fn [56] "_law_deed" 0 [] N N N N N N) },
  { cls := (T "code"), data := (fl [(S "_law_deed" 684), (S "_law_deed" 685), (S "/claim/cut.py" 686), (I 238 0), (I 7 0), (I 0 0), (I 0 0), (I 3 0), (R 357), (.bool true), (I 181 0), (R 358), N, (R 359), (R 360), (R 361), (I 701 0), (I 238 0), (S "/claim/cut.py" 702)]) },
  { cls := (T "function"), data := (fn [56] "_law_deed" 3 [] N N N (S "law_tg0048_01" 658) (R 362) N) },
  { cls := (T "tuple"), data := (sq [] 0) },
  { cls := N, data := (fl []) },
  { cls := N, data := (fn [57] "_law_exchanged" 0 [] N N N N N N) },
  { cls := (T "code"), data := (fl [(S "_law_exchanged" 704), (S "_law_exchanged" 705), (S "/claim/cut.py" 706), (I 249 0), (I 3 0), (I 0 0), (I 0 0), (I 3 0), (R 364), (.bool true), (I 181 0), (R 365), N, N, N, (R 366), (I 707 0), (I 249 0), (S "/claim/cut.py" 708)]) },
  { cls := (T "function"), data := (fn [57] "_law_exchanged" 3 [] N N N (S "law_tg0048_01" 658) (R 367) N) },
  { cls := (T "tuple"), data := (sq [] 0) },
  { cls := N, data := (fl []) },
  { cls := N, data := (fn [58] "law" 0 [] N N N N N N) },
  { cls := (T "code"), data := (fl [(S "law" 710), (S "law" 711), (S "/claim/cut.py" 712), (I 260 0), (I 1 0), (I 0 0), (I 0 0), (I 3 0), (R 369), (.bool true), (I 181 0), (R 370), N, N, N, (R 371), (I 713 0), (I 260 0), (S "/claim/cut.py" 714)]) },
  { cls := (T "function"), data := (fn [58] "law" 3 [] N N N (S "law_tg0048_01" 658) (R 372) N) }], {}⟩
noncomputable def hk : Hook := kmHook heap_39 ks (fun _ => by kernel_rfl) [358, 370]
theorem ran (w : World) (os : OsState) : topRun treeTable PySem.Challenge.rw_tg0048_01.row.prog w 11 (some (.ref 6)) 4476 ⟨boot_heap w.params, Array.mk [], boot_drawn, boot_toks, os⟩ (topStub PySem.Challenge.rw_tg0048_01.row.prog) = some ⟨fin w.params, Array.mk [], {}, 716, os⟩ := by
  rw [PySem.W.Fast.te14082659384304107361, PySem.W.Fast.te14364793385576792824]; kernel_rfl
theorem look1 (w : World) (os : OsState) : (staticsOk (importedModules PySem.Challenge.rw_tg0048_01.row.prog.main.body) (boot_heap w.params) (fin w.params) && namesBound PySem.Challenge.rw_tg0048_01.row.prog (fin w.params) && gensDone ⟨fin w.params, Array.mk [], {}, 716, os⟩ && laidKept (boot_heap w.params) (fin w.params)) = true := by kernel_rfl
theorem look2 (w : World) (os : OsState) : openSeen view_39 [] (importedModules PySem.Challenge.rw_tg0048_01.row.prog.main.body) (fun s => xlAt view_39 [] s && recOk (RowW.records PySem.Challenge.rw_tg0048_01.row.toRowW) s) true ⟨fin w.params, Array.mk [], {}, 716, os⟩ = openGood view_39 [] := by kernel_rfl
theorem look3 (w : World) (os : OsState) : hk.obs ⟨fin w.params, Array.mk [], {}, 716, os⟩ = hk.val w := by kernel_rfl
theorem sized (w : World) : ((boot_heap w.params).isNs mainGlobals && (Array.mk [] : Array GenState).size == 0, (boot_heap w.params).objs.size, (boot_heap w.params).nsMap mainGlobals "__annotations__") = (true, 11, some (Value.ref 6)) := by kernel_rfl
theorem opened : opening PySem.Challenge.rw_tg0048_01.row.prog = plainProg PySem.Challenge.rw_tg0048_01.row.prog.main.scope.names := by kernel_rfl
theorem left : LeftO PySem.Challenge.rw_tg0048_01.row.prog view_39 [] (fun s => xlAt view_39 [] s && recOk (RowW.records PySem.Challenge.rw_tg0048_01.row.toRowW) s) hk.obs hk.val 4476 :=
  LeftO.of_pieces (H₀ := boot_heap) (H₁ := fin) (boot_open opened (by decide) (fun s => rfl)) sized ran (by decide)
    fun w => funext fun os => by rw [look1 w os, look2 w os, look3 w os]
theorem said_1 : lookedIntoSs (moduleNames pg.main.body) pg.main.body = true := by rw [Fast.te12862048085361865435, Fast.te9807087744658564304]; kernel_rfl
theorem said_2 : namesResolve pg = true := by rw [Fast.te8377067652309620493]; kernel_rfl
theorem said_s : (["vars", "dir", "locals"] : List Str) = [⟨⟨[nat_lit 118, nat_lit 97, nat_lit 114, nat_lit 115]⟩⟩, ⟨⟨[nat_lit 100, nat_lit 105, nat_lit 114]⟩⟩, ⟨⟨[nat_lit 108, nat_lit 111, nat_lit 99, nat_lit 97, nat_lit 108, nat_lit 115]⟩⟩] := by kernel_rfl
theorem said_3 : (["vars", "dir", "locals"] : List Str).filter (readsOut pg pg.main.body) = [] := by rw [said_s, Fast.te13343964577679436407]; kernel_rfl
theorem said_4 : noRoadLSs { strict := !(importedModules pg.main.body).all cThrough.contains, foot := none, bare := (["vars", "dir", "locals"] : List Str).filter (readsOut pg pg.main.body) } pg.main.body = true := by
  rw [said_3]; kernel_rfl
theorem said_5 : namesMeet pg pg.main.body (fun _ n => attrL n) = true := by rw [Fast.te17119622794617984870, Fast.te17868728402115742887]; kernel_rfl
theorem said_6 : looksOpen pg = true := by
  delta looksOpen
  refine look_both (look_both (look_both (look_both (look_both ?_ ?_) said_2) ?_) said_4) said_5
  · kernel_rfl
  · rw [said_1, Bool.or_true]
  · kernel_rfl
theorem said : OpenLaw.wellSaid PySem.Challenge.rw_tg0048_01 = true := by
  delta OpenLaw.wellSaid
  repeat' (first | with_reducible refine look_both ?_ ?_ | (delta OpenRow.wellSaid; with_reducible refine look_both ?_ ?_) | (delta OpenRow.partSaid; with_reducible refine look_both ?_ ?_))
  · exact said_6
  all_goals (try rw [Fast.te17119622794617984870]) <;> (try rw [Fast.named_eq]) <;> kernel_rfl
end Mine.hd
end
section
open PySem PySem.W PySem.Calls PyProof.Rows
theorem Mine.hd.join (walk : WalkO Mine.hd.view_39 [] (XL Mine.hd.view_39 []) Mine.hd.hk.says PySem.Challenge.rw_tg0048_01.row.toRowW Mine.hd.lawRec [] fun f vs => PySem.call f vs) : PySem.Challenge.rw_tg0048_01.Holds := by
  refine holds_law Mine.hd.said fun said => ?_
  refine holds_open (q := Mine.hd.view_39) (loose := []) (Xt := fun s => xlAt Mine.hd.view_39 [] s && recOk (RowW.records PySem.Challenge.rw_tg0048_01.row.toRowW) s) (XP := XL Mine.hd.view_39 []) (Yf := Mine.hd.hk.obs) (Ya := Mine.hd.hk.val) (YP := Mine.hd.hk.says) (d := Mine.hd.lawRec) (kwd := []) (N := 4476) Mine.hd.left Mine.hd.hk.of Mine.hd.hk.keeps (fun s e => xl_of s (Bool.and_eq_true_iff.mp e).1) XL.keeps ?h1 ?h2 ?h3 (fun s e => recFacts_of (Bool.and_eq_true_iff.mp e).2) ?h4 said ?h5 ?h6 ?hw walk
  case h1 => kernel_rfl
  case h2 => kernel_rfl
  case h3 => kernel_rfl
  case h4 => rfl
  case h5 => decide +kernel
  case h6 => exact ⟨rfl, rfl, rfl, rfl, rfl, by decide +kernel⟩
  case hw => w_witness2
end
namespace Mine
open PySem PySem.W PySem.Calls PyProof.Rows PySem.Challenge
structure Stop (P :Prop) :Prop where
  h :P
theorem toStop {P :Prop} (h :Stop P) :P :=h.h
local macro_rules | `(tactic| omega) => `(tactic| k_extra "om")
local macro_rules | `(tactic| walk_at $s:str) => `(tactic| (k_extra $(Lean.Syntax.mkStrLit ("m" ++ s.getString)):str; fail_if_success (refine Stop.mk ?_)))
local macro_rules | `(tactic| cell_enter) => `(tactic| k_extra "cell_enter")
local macro_rules | `(tactic| is_list) => `(tactic| k_extra "is_list")
local macro_rules | `(tactic| k_all) => `(tactic| k_extra "k_all")
local macro_rules | `(tactic| k_mem) => `(tactic| k_extra "k_mem")
local macro_rules | `(tactic| kpc_eq) => `(tactic| k_extra "kpc_eq")
local macro_rules | `(tactic| kpc_fact) => `(tactic| k_extra "kpc_fact")
local macro_rules | `(tactic| kpc_g) => `(tactic| k_extra "kpc_g")
local macro_rules | `(tactic| kpc_obj) => `(tactic| k_extra "kpc_obj")
local macro_rules | `(tactic| kpc_size) => `(tactic| k_extra "kpc_size")
local macro_rules | `(tactic| kst_all) => `(tactic| k_extra "kst_all")
local macro_rules | `(tactic| kst_facts) => `(tactic| k_extra "kst_facts")
local macro_rules | `(tactic| kst_in) => `(tactic| k_extra "kst_in")
local macro_rules | `(tactic| kst_mem) => `(tactic| k_extra "kst_mem")
local macro_rules | `(tactic| kst_p) => `(tactic| k_extra "kst_p")
local macro_rules | `(tactic| kst_same) => `(tactic| k_extra "kst_same")
local macro_rules | `(tactic| ktr_enter) => `(tactic| k_extra "ktr_enter")
local macro_rules | `(tactic| ktr_rel) => `(tactic| k_extra "ktr_rel")
local macro_rules | `(tactic| ktr_room) => `(tactic| k_extra "ktr_room")
local macro_rules | `(tactic| ktr_step) => `(tactic| k_extra "ktr_step")
local macro_rules | `(tactic| ktr_unf) => `(tactic| k_extra "ktr_unf")
local macro_rules | `(tactic| ktr_units) => `(tactic| k_extra "ktr_units")
local macro_rules | `(tactic| lsm_bools) => `(tactic| k_extra "lsm_bools")
local macro_rules | `(tactic| size_fits) => `(tactic| k_extra "size_fits")
local macro_rules | `(tactic| tb_rel) => `(tactic| k_extra "tb_rel")
local macro_rules | `(tactic| tb_start) => `(tactic| k_extra "tb_start")
local macro_rules | `(tactic| wp_step) => `(tactic| k_extra "wp_step")
theorem kw1 :True :=by
  (k_with "ne" => (first | infer_instance | exact neWorld | exact neShared | exact neAround | exact neParams | exact neDrawn | exact neOs))
  (k_with "om" => (first | with_reducible assumption | with_reducible exact (show _ ∧ _ from by assumption).1 | with_reducible exact (show _ ∧ _ ∧ _ from by assumption).2.1 | with_reducible exact (show _ ∧ _ ∧ _ ∧ _ from by assumption).2.2.1 | with_reducible exact (show _ ∧ _ ∧ _ ∧ _ ∧ _ from by assumption).2.2.2.1 | with_reducible exact (show _ ∧ _ ∧ _ ∧ _ ∧ _ ∧ _ from by assumption).2.2.2.2.1 | with_reducible exact (show _ ∧ _ ∧ _ ∧ _ ∧ _ ∧ _ ∧ _ from by assumption).2.2.2.2.2.1 | with_reducible exact (show _ ∧ _ ∧ _ ∧ _ ∧ _ ∧ _ ∧ _ ∧ _ from by assumption).2.2.2.2.2.2.1 | with_reducible exact (show _ ∧ _ ∧ _ ∧ _ ∧ _ ∧ _ ∧ _ ∧ _ ∧ _ from by assumption).2.2.2.2.2.2.2.1 | with_reducible exact (show _ ∧ _ ∧ _ ∧ _ ∧ _ ∧ _ ∧ _ ∧ _ ∧ _ ∧ _ from by assumption).2.2.2.2.2.2.2.2.1 | with_reducible exact rec_l (by assumption) (by assumption) | with_reducible exact rec_l rfl (by assumption) | lia))
  (k_with "cell_enter" => ((refine wpAny_call ?_; k_dflt (refine' enterF (by assumption) (by assumption) (by assumption) ?k8 ?k6 ?k7 ?k9 ?kB ?_ ?c2 ?c3 ?c4 ?c5; (case k6 => k_is); (case k7 => k_is); (case k8 => exact lv_room (by assumption)); (case k9 => exact BindsTo.of_eq rfl); (case c5 => decide); (case kB => exact locs rfl); (case c2 => exact rfl); (case c3 => exact rfl); (case c4 => exact rfl); k_whole; intro g' L' h' tk' loose' mean' F' N' X' T' sg' kp' bk' l1; (first | (with_unfolding_all have F'3 :Fr _ _ _ (frm [(_,_)]) :=F') | (with_unfolding_all have F'3 :Fr _ _ _ (frm [(_,_),(_,_)]) :=F') | (with_unfolding_all have F'3 :Fr _ _ _ (frm [(_,_),(_,_),(_,_)]) :=F') | (with_unfolding_all have F'3 :Fr _ _ _ (frm [(_,_),(_,_),(_,_),(_,_)]) :=F') | (with_unfolding_all have F'3 :Fr _ _ _ (frm [(_,_),(_,_),(_,_),(_,_),(_,_)]) :=F') | (with_unfolding_all have F'3 :Fr _ _ _ (frm [(_,_),(_,_),(_,_),(_,_),(_,_),(_,_)]) :=F')); (clear F'); (try dsimp only [frm] at F'3); (try dsimp only); (try k_fold)))))
  (k_with "is_list" => (exact News.isList (by k_asm) (by k_mem)))
  (k_with "k_all" => (first | (intros p9 hp9; exact Nat.ne_of_lt ((by assumption :∀ p ∈ _,p.1 < _) p9 hp9)) | assumption | kst_allNe))
  (k_with "k_mem" => (first | exact List.Mem.head _ | with_reducible assumption | ktr_member | (refine' List.mem_cons_of_mem _ ?_; k_mem) | (refine' List.mem_append_right _ ?_; k_mem)))
  (k_with "kpc_eq" => ((intros p9 hp9 np9; repeat (first | with_reducible exact hp9 | refine mem_dropN.mpr ⟨?_,np9⟩ | refine List.mem_cons_of_mem _ ?_ | refine List.mem_append_right _ ?_))))
  (k_with "kpc_fact" => ((intro ws9 h9 tk9 F9 N9 hI9; (try dsimp only); (try k_fold))))
  (k_with "kpc_g" => ((intro x9 ws9 ms9 h9 tk9 F9 N9 hw9 hm9 od9 lt9; (have s9 :Apart _ _ :=lt9); (try dsimp only); (try k_fold))))
  (k_with "kpc_obj" => ((intro F9a n9 ps9 h9 tk9 F9 N9 hP9a hF9 lt9; (have s9 :Apart _ _ :=lt9); (try dsimp only); (try k_fold))))
  (k_with "kpc_size" => (refine mutG [] (by assumption) (by assumption) (by assumption) (by assumption) (by kpc_eq) (by k_mem) (fun _ h => nomatch h) (fun _ h => nomatch h) ⟨rfl,rfl,_,rfl,?_⟩))
  (k_with "kst_all" => ((intro x9 t9 u9 h9 tk9 F9 N9 lt9; (have o9 :=off1_of lt9); (try dsimp only [LCg.Off1] at o9); (try dsimp only); (try k_fold))))
  (k_with "kst_facts" => ((intro x9 ws9 n9 h9 tk9 F9 N9 hI9 lt9; (have o9 :=off1_of lt9); (try dsimp only [LCg.Off1] at o9); (try dsimp only); (try k_fold))))
  (k_with "kst_in" => (first | kst_allNe | (intros q9 hq9; first | exact Nat.ne_of_lt ((by assumption :∀ p ∈ _,p.1 < _) q9 hq9) | exact off1_ne (by assumption) q9 hq9 | exact (by assumption :∀ p ∈ _,p.1 ≠ _) q9 (by k_mem) | exact Nat.ne_of_lt ((by assumption :∀ p ∈ _,p.1 < _) q9 (by k_mem)))))
  (k_with "kst_mem" => ((intro h9 tk9 F9 N9; (try dsimp only); (try k_fold))))
  (k_with "kst_p" => (k_dflt (refine' retE ?F ?N ?kp ?hn ?hs ?r3 ?r4 ?r2 ?r1 ?hlt ?o1 ?o2 ?o3 ?o4 ?h1 ?h2; (case F => k_asm); (case N => k_asm); (case kp => assumption); (case hn => assumption); (case hs => ktr_rel); (case r3 => k_mem); (case r4 => k_mem); (case r2 => k_mem); (case r1 => k_mem); (case hlt => first | assumption | (intros q9 hq9; exact (by assumption :∀ p ∈ _,p.1 < _) q9 (by k_mem))); (case o1 => first | assumption | omega); (case o2 => first | assumption | omega); (case o3 => omega); (case o4 => kst_in))))
  (k_with "kst_same" => ((intro t9 h9 tk9 F9 N9; (try dsimp only); (try k_fold))))
  (k_with "ktr_enter" => ((refine wpAny_call ?_; k_dflt (refine' enterC (by assumption) (by assumption) (by assumption) ?k8 ?k6 ?k7 ?k9 ?kB ?kD ?_ ?c2 ?c3 ?c4; (case k6 => k_is); (case k7 => k_is); (case k8 => exact lv_room (by assumption)); (case k9 => exact BindsTo.of_eq rfl); (case kB => exact rfl); (case kD => decide +kernel); (case c2 => exact rfl); (case c3 => exact rfl); (case c4 => exact rfl); k_whole; intro g' L' h' tk' cells' loose' mean' F' N' Y' X' T' sg' kp' bk' l1; k_cells Y'; (try simp only [List.cons_append,List.nil_append] at N'); (try dsimp only); (try k_fold)))))
  (k_with "ktr_rel" => ((intros p9 hp9; first | ((repeat (first | with_reducible exact hp9 | refine List.mem_cons_of_mem _ ?_ | refine List.mem_append_right _ ?_)); done) | (repeat (first | exact hp9 | refine List.mem_cons_of_mem _ ?_ | refine List.mem_append_right _ ?_)))))
  (k_with "ktr_room" => (exact lv_use (by assumption) (by decide)))
  (k_with "ktr_step" => (refine retG [_] (by assumption) (by assumption) (by assumption) (by assumption) (by ktr_rel) (fun p hp => by rw [List.mem_singleton.mp hp]; exact List.mem_cons_self) (fun p hp => by rw [List.mem_singleton.mp hp]; kst_in) ⟨_,_,_,rfl,rfl,?_⟩))
  (k_with "ktr_unf" => ((intros b9 o9 e9; exact Fr.keep (by assumption) _ _ ((by assumption :Stay _ _) _ _ e9))))
  (k_with "ktr_units" => (exact HN.of (by assumption) (by assumption)))
  (k_with "lsm_bools" => (assumption))
  (k_with "size_fits" => (((simp only [List.size_toArray,PySem.sizeLine_eq,List.length_append,List.length_cons,List.length_nil]); omega)))
  (k_with "tb_rel" => (exact DM.mono (by assumption) (by ktr_rel)))
  (k_with "tb_start" => (refine retG0 (by assumption) (by assumption) (by assumption) (by assumption) (by ktr_rel) ?_))
  (k_with "wp_step" => (first | with_reducible (first | refine wpAny_pure ?_ | refine wpAny_bind ?_ | refine wpAny_holding ?_ | refine wpAny_standAt ?_ | refine wpAny_point ?_ | refine wpAny_rule ?_ | refine wpAny_letGo ?_ | refine wpAny_attempt ?_ | refine wpAny_of_eq (by assumption) ?_ | refine wpAny_typeOf (by assumption) ?_ | refine wpAny_call ?_ | refine wpAny_runValue ?_ | refine wpAny_run ?_) | wp_delta))
  (k_with "r0" => ((refine append_first (by k_asm) (by k_asm) (by k_mem) (by simp only [List.size_toArray,List.length_map]; omega) ?_; intro h8 F8 N8)))
  (k_with "r1" => (((with_reducible show wpAny _ _ (call (Value.ref 33) _) _ _ _); refine Wait.h ?_)))
  (k_with "r2" => ((k_dflt (refine ListComp_pair (F₀ :=by k_asm) (by rfl) (by rfl) (by decide) (by rfl) (by decide) (by rfl) (by rfl) (by decide) ?_))))
  (k_with "r3" => ((k_dflt (refine nameX_C (by k_asm) (by rfl) (by assumption) (by assumption) ?_))))
  (k_with "r4" => ((k_dflt (refine LCg.Assign_ListComp_U (F₀ :=by k_asm) (by rfl) (by with_unfolding_all rfl) (by rfl) (by decide) (by rfl) (by decide) (by rfl) (by rfl) (by rfl) ?_))))
  (k_with "r5" => ((k_here; with_reducible refine plainObj_wpAny_Assign_Attribute ?_ ?_; rotate_left; with_unfolding_all rfl)))
  (k_with "r6" => (((rename Fr _ _ _ _ => lF'); (with_unfolding_all refine' For_turns lF' ?_; k_whole))))
  (k_with "r7" => (((rename Fr _ _ _ _ => lF'); (with_unfolding_all refine' For_turns lF' ?_; k_whole))))
  (k_with "r8" => ((refine set_first (by k_asm) (by k_asm) (by k_mem) (by assumption) (by omega) (by omega) (by omega) ?_; intro h9 F9 N9 hI9)))
  trivial
section
section
theorem neWorld :Nonempty World :=⟨⟨fun _ _ => 0,{ strHash :=fun _ => 0,shareClass :=fun _ => 0,mergeTok :=id,idOf :=fun _ => 0,idOfShared :=fun _ _ => 0,followText :=fun _ => false,idOfImm :=fun _ => 0 }⟩⟩
theorem neShared :Nonempty Shared :=⟨{}⟩
theorem neAround :Nonempty Around :=⟨{ depth :=0 }⟩
theorem neDrawn :Nonempty Drawn :=⟨({} :Shared).drawn⟩
theorem neOs :Nonempty OsState :=⟨({} :Shared).os⟩
theorem neParams :Nonempty Params :=neWorld.elim fun w => ⟨w.params⟩
noncomputable def es {α :Type} {n :Nonempty α} (P :α → Prop) :α :=@Classical.epsilon α n P
theorem exi {α :Type} (n :Nonempty α :=by k_extra "ne") {P :α → Prop} {G :Prop} (h :P (es (n :=n) P) → G) :(∃ x,P x) → G :=fun e => h (@Classical.epsilon_spec α P e)
theorem andi {A B G :Prop} (h :A → B → G) :A ∧ B → G :=fun x => h x.1 x.2
theorem pr1 {α0 :Type} {P :α0 → Prop} (h :∀ x0,P x0) :∀ x0,P x0 :=h
noncomputable def ep1 {α0 :Type} {n0 :Nonempty α0} (P :α0 → Prop) :α0 :=@Classical.epsilon _ (n0.elim fun x0 => ⟨x0⟩) fun x => ¬ P x
theorem ei1 {α0 :Type} (n0 :Nonempty α0 :=by k_extra "ne") {P :α0 → Prop} (h :P (ep1 (n0 :=n0) P)) :∀ x0,P x0 :=fun x0 => Classical.byContradiction fun c => @Classical.epsilon_spec _ (fun x :α0 => ¬ P x) ⟨x0,c⟩ h
theorem pr2 {α0 α1 :Type} {P :α0 → α1 → Prop} (h :∀ x0 x1,P x0 x1) :∀ x0 x1,P x0 x1 :=h
noncomputable def ep2 {α0 α1 :Type} {n0 :Nonempty α0} {n1 :Nonempty α1} (P :α0 → α1 → Prop) :α0 × α1 :=@Classical.epsilon _ (n0.elim fun x0 => n1.elim fun x1 => ⟨(x0,x1)⟩) fun x => ¬ P x.1 x.2
theorem ei2 {α0 α1 :Type} (n0 :Nonempty α0 :=by k_extra "ne") (n1 :Nonempty α1 :=by k_extra "ne") {P :α0 → α1 → Prop} (h :P (ep2 (n0 :=n0) (n1 :=n1) P).1 (ep2 (n0 :=n0) (n1 :=n1) P).2) :∀ x0 x1,P x0 x1 :=fun x0 x1 => Classical.byContradiction fun c => @Classical.epsilon_spec _ (fun x :α0 × α1 => ¬ P x.1 x.2) ⟨(x0,x1),c⟩ h
noncomputable def es2 {α0 α1 :Type} {n0 :Nonempty α0} {n1 :Nonempty α1} (P :α0 → α1 → Prop) :α0 × α1 :=@Classical.epsilon _ (n0.elim fun x0 => n1.elim fun x1 => ⟨(x0,x1)⟩) fun x => P x.1 x.2
theorem exi2 {α0 α1 :Type} (n0 :Nonempty α0 :=by k_extra "ne") (n1 :Nonempty α1 :=by k_extra "ne") {P :α0 → α1 → Prop} {G :Prop} (h :P (es2 (n0 :=n0) (n1 :=n1) P).1 (es2 (n0 :=n0) (n1 :=n1) P).2 → G) :(∃ x0 x1,P x0 x1) → G :=fun e => e.elim fun x0 e => e.elim fun x1 e => h (@Classical.epsilon_spec _ (fun x :α0 × α1 => P x.1 x.2) ⟨(x0,x1),e⟩)
theorem pr3 {α0 α1 α2 :Type} {P :α0 → α1 → α2 → Prop} (h :∀ x0 x1 x2,P x0 x1 x2) :∀ x0 x1 x2,P x0 x1 x2 :=h
noncomputable def ep3 {α0 α1 α2 :Type} {n0 :Nonempty α0} {n1 :Nonempty α1} {n2 :Nonempty α2} (P :α0 → α1 → α2 → Prop) :α0 × α1 × α2 :=@Classical.epsilon _ (n0.elim fun x0 => n1.elim fun x1 => n2.elim fun x2 => ⟨(x0,x1,x2)⟩) fun x => ¬ P x.1 x.2.1 x.2.2
theorem ei3 {α0 α1 α2 :Type} (n0 :Nonempty α0 :=by k_extra "ne") (n1 :Nonempty α1 :=by k_extra "ne") (n2 :Nonempty α2 :=by k_extra "ne") {P :α0 → α1 → α2 → Prop} (h :P (ep3 (n0 :=n0) (n1 :=n1) (n2 :=n2) P).1 (ep3 (n0 :=n0) (n1 :=n1) (n2 :=n2) P).2.1 (ep3 (n0 :=n0) (n1 :=n1) (n2 :=n2) P).2.2) :∀ x0 x1 x2,P x0 x1 x2 :=fun x0 x1 x2 => Classical.byContradiction fun c => @Classical.epsilon_spec _ (fun x :α0 × α1 × α2 => ¬ P x.1 x.2.1 x.2.2) ⟨(x0,x1,x2),c⟩ h
noncomputable def es3 {α0 α1 α2 :Type} {n0 :Nonempty α0} {n1 :Nonempty α1} {n2 :Nonempty α2} (P :α0 → α1 → α2 → Prop) :α0 × α1 × α2 :=@Classical.epsilon _ (n0.elim fun x0 => n1.elim fun x1 => n2.elim fun x2 => ⟨(x0,x1,x2)⟩) fun x => P x.1 x.2.1 x.2.2
theorem exi3 {α0 α1 α2 :Type} (n0 :Nonempty α0 :=by k_extra "ne") (n1 :Nonempty α1 :=by k_extra "ne") (n2 :Nonempty α2 :=by k_extra "ne") {P :α0 → α1 → α2 → Prop} {G :Prop} (h :P (es3 (n0 :=n0) (n1 :=n1) (n2 :=n2) P).1 (es3 (n0 :=n0) (n1 :=n1) (n2 :=n2) P).2.1 (es3 (n0 :=n0) (n1 :=n1) (n2 :=n2) P).2.2 → G) :(∃ x0 x1 x2,P x0 x1 x2) → G :=fun e => e.elim fun x0 e => e.elim fun x1 e => e.elim fun x2 e => h (@Classical.epsilon_spec _ (fun x :α0 × α1 × α2 => P x.1 x.2.1 x.2.2) ⟨(x0,x1,x2),e⟩)
theorem pr4 {α0 α1 α2 α3 :Type} {P :α0 → α1 → α2 → α3 → Prop} (h :∀ x0 x1 x2 x3,P x0 x1 x2 x3) :∀ x0 x1 x2 x3,P x0 x1 x2 x3 :=h
noncomputable def ep4 {α0 α1 α2 α3 :Type} {n0 :Nonempty α0} {n1 :Nonempty α1} {n2 :Nonempty α2} {n3 :Nonempty α3} (P :α0 → α1 → α2 → α3 → Prop) :α0 × α1 × α2 × α3 :=@Classical.epsilon _ (n0.elim fun x0 => n1.elim fun x1 => n2.elim fun x2 => n3.elim fun x3 => ⟨(x0,x1,x2,x3)⟩) fun x => ¬ P x.1 x.2.1 x.2.2.1 x.2.2.2
theorem ei4 {α0 α1 α2 α3 :Type} (n0 :Nonempty α0 :=by k_extra "ne") (n1 :Nonempty α1 :=by k_extra "ne") (n2 :Nonempty α2 :=by k_extra "ne") (n3 :Nonempty α3 :=by k_extra "ne") {P :α0 → α1 → α2 → α3 → Prop} (h :P (ep4 (n0 :=n0) (n1 :=n1) (n2 :=n2) (n3 :=n3) P).1 (ep4 (n0 :=n0) (n1 :=n1) (n2 :=n2) (n3 :=n3) P).2.1 (ep4 (n0 :=n0) (n1 :=n1) (n2 :=n2) (n3 :=n3) P).2.2.1 (ep4 (n0 :=n0) (n1 :=n1) (n2 :=n2) (n3 :=n3) P).2.2.2) :∀ x0 x1 x2 x3,P x0 x1 x2 x3 :=fun x0 x1 x2 x3 => Classical.byContradiction fun c => @Classical.epsilon_spec _ (fun x :α0 × α1 × α2 × α3 => ¬ P x.1 x.2.1 x.2.2.1 x.2.2.2) ⟨(x0,x1,x2,x3),c⟩ h
noncomputable def es4 {α0 α1 α2 α3 :Type} {n0 :Nonempty α0} {n1 :Nonempty α1} {n2 :Nonempty α2} {n3 :Nonempty α3} (P :α0 → α1 → α2 → α3 → Prop) :α0 × α1 × α2 × α3 :=@Classical.epsilon _ (n0.elim fun x0 => n1.elim fun x1 => n2.elim fun x2 => n3.elim fun x3 => ⟨(x0,x1,x2,x3)⟩) fun x => P x.1 x.2.1 x.2.2.1 x.2.2.2
theorem exi4 {α0 α1 α2 α3 :Type} (n0 :Nonempty α0 :=by k_extra "ne") (n1 :Nonempty α1 :=by k_extra "ne") (n2 :Nonempty α2 :=by k_extra "ne") (n3 :Nonempty α3 :=by k_extra "ne") {P :α0 → α1 → α2 → α3 → Prop} {G :Prop} (h :P (es4 (n0 :=n0) (n1 :=n1) (n2 :=n2) (n3 :=n3) P).1 (es4 (n0 :=n0) (n1 :=n1) (n2 :=n2) (n3 :=n3) P).2.1 (es4 (n0 :=n0) (n1 :=n1) (n2 :=n2) (n3 :=n3) P).2.2.1 (es4 (n0 :=n0) (n1 :=n1) (n2 :=n2) (n3 :=n3) P).2.2.2 → G) :(∃ x0 x1 x2 x3,P x0 x1 x2 x3) → G :=fun e => e.elim fun x0 e => e.elim fun x1 e => e.elim fun x2 e => e.elim fun x3 e => h (@Classical.epsilon_spec _ (fun x :α0 × α1 × α2 × α3 => P x.1 x.2.1 x.2.2.1 x.2.2.2) ⟨(x0,x1,x2,x3),e⟩)
theorem pr5 {α0 α1 α2 α3 α4 :Type} {P :α0 → α1 → α2 → α3 → α4 → Prop} (h :∀ x0 x1 x2 x3 x4,P x0 x1 x2 x3 x4) :∀ x0 x1 x2 x3 x4,P x0 x1 x2 x3 x4 :=h
noncomputable def ep5 {α0 α1 α2 α3 α4 :Type} {n0 :Nonempty α0} {n1 :Nonempty α1} {n2 :Nonempty α2} {n3 :Nonempty α3} {n4 :Nonempty α4} (P :α0 → α1 → α2 → α3 → α4 → Prop) :α0 × α1 × α2 × α3 × α4 :=@Classical.epsilon _ (n0.elim fun x0 => n1.elim fun x1 => n2.elim fun x2 => n3.elim fun x3 => n4.elim fun x4 => ⟨(x0,x1,x2,x3,x4)⟩) fun x => ¬ P x.1 x.2.1 x.2.2.1 x.2.2.2.1 x.2.2.2.2
theorem ei5 {α0 α1 α2 α3 α4 :Type} (n0 :Nonempty α0 :=by k_extra "ne") (n1 :Nonempty α1 :=by k_extra "ne") (n2 :Nonempty α2 :=by k_extra "ne") (n3 :Nonempty α3 :=by k_extra "ne") (n4 :Nonempty α4 :=by k_extra "ne") {P :α0 → α1 → α2 → α3 → α4 → Prop} (h :P (ep5 (n0 :=n0) (n1 :=n1) (n2 :=n2) (n3 :=n3) (n4 :=n4) P).1 (ep5 (n0 :=n0) (n1 :=n1) (n2 :=n2) (n3 :=n3) (n4 :=n4) P).2.1 (ep5 (n0 :=n0) (n1 :=n1) (n2 :=n2) (n3 :=n3) (n4 :=n4) P).2.2.1 (ep5 (n0 :=n0) (n1 :=n1) (n2 :=n2) (n3 :=n3) (n4 :=n4) P).2.2.2.1 (ep5 (n0 :=n0) (n1 :=n1) (n2 :=n2) (n3 :=n3) (n4 :=n4) P).2.2.2.2) :∀ x0 x1 x2 x3 x4,P x0 x1 x2 x3 x4 :=fun x0 x1 x2 x3 x4 => Classical.byContradiction fun c => @Classical.epsilon_spec _ (fun x :α0 × α1 × α2 × α3 × α4 => ¬ P x.1 x.2.1 x.2.2.1 x.2.2.2.1 x.2.2.2.2) ⟨(x0,x1,x2,x3,x4),c⟩ h
noncomputable def es5 {α0 α1 α2 α3 α4 :Type} {n0 :Nonempty α0} {n1 :Nonempty α1} {n2 :Nonempty α2} {n3 :Nonempty α3} {n4 :Nonempty α4} (P :α0 → α1 → α2 → α3 → α4 → Prop) :α0 × α1 × α2 × α3 × α4 :=@Classical.epsilon _ (n0.elim fun x0 => n1.elim fun x1 => n2.elim fun x2 => n3.elim fun x3 => n4.elim fun x4 => ⟨(x0,x1,x2,x3,x4)⟩) fun x => P x.1 x.2.1 x.2.2.1 x.2.2.2.1 x.2.2.2.2
theorem exi5 {α0 α1 α2 α3 α4 :Type} (n0 :Nonempty α0 :=by k_extra "ne") (n1 :Nonempty α1 :=by k_extra "ne") (n2 :Nonempty α2 :=by k_extra "ne") (n3 :Nonempty α3 :=by k_extra "ne") (n4 :Nonempty α4 :=by k_extra "ne") {P :α0 → α1 → α2 → α3 → α4 → Prop} {G :Prop} (h :P (es5 (n0 :=n0) (n1 :=n1) (n2 :=n2) (n3 :=n3) (n4 :=n4) P).1 (es5 (n0 :=n0) (n1 :=n1) (n2 :=n2) (n3 :=n3) (n4 :=n4) P).2.1 (es5 (n0 :=n0) (n1 :=n1) (n2 :=n2) (n3 :=n3) (n4 :=n4) P).2.2.1 (es5 (n0 :=n0) (n1 :=n1) (n2 :=n2) (n3 :=n3) (n4 :=n4) P).2.2.2.1 (es5 (n0 :=n0) (n1 :=n1) (n2 :=n2) (n3 :=n3) (n4 :=n4) P).2.2.2.2 → G) :(∃ x0 x1 x2 x3 x4,P x0 x1 x2 x3 x4) → G :=fun e => e.elim fun x0 e => e.elim fun x1 e => e.elim fun x2 e => e.elim fun x3 e => e.elim fun x4 e => h (@Classical.epsilon_spec _ (fun x :α0 × α1 × α2 × α3 × α4 => P x.1 x.2.1 x.2.2.1 x.2.2.2.1 x.2.2.2.2) ⟨(x0,x1,x2,x3,x4),e⟩)
theorem pr6 {α0 α1 α2 α3 α4 α5 :Type} {P :α0 → α1 → α2 → α3 → α4 → α5 → Prop} (h :∀ x0 x1 x2 x3 x4 x5,P x0 x1 x2 x3 x4 x5) :∀ x0 x1 x2 x3 x4 x5,P x0 x1 x2 x3 x4 x5 :=h
noncomputable def ep6 {α0 α1 α2 α3 α4 α5 :Type} {n0 :Nonempty α0} {n1 :Nonempty α1} {n2 :Nonempty α2} {n3 :Nonempty α3} {n4 :Nonempty α4} {n5 :Nonempty α5} (P :α0 → α1 → α2 → α3 → α4 → α5 → Prop) :α0 × α1 × α2 × α3 × α4 × α5 :=@Classical.epsilon _ (n0.elim fun x0 => n1.elim fun x1 => n2.elim fun x2 => n3.elim fun x3 => n4.elim fun x4 => n5.elim fun x5 => ⟨(x0,x1,x2,x3,x4,x5)⟩) fun x => ¬ P x.1 x.2.1 x.2.2.1 x.2.2.2.1 x.2.2.2.2.1 x.2.2.2.2.2
theorem ei6 {α0 α1 α2 α3 α4 α5 :Type} (n0 :Nonempty α0 :=by k_extra "ne") (n1 :Nonempty α1 :=by k_extra "ne") (n2 :Nonempty α2 :=by k_extra "ne") (n3 :Nonempty α3 :=by k_extra "ne") (n4 :Nonempty α4 :=by k_extra "ne") (n5 :Nonempty α5 :=by k_extra "ne") {P :α0 → α1 → α2 → α3 → α4 → α5 → Prop} (h :P (ep6 (n0 :=n0) (n1 :=n1) (n2 :=n2) (n3 :=n3) (n4 :=n4) (n5 :=n5) P).1 (ep6 (n0 :=n0) (n1 :=n1) (n2 :=n2) (n3 :=n3) (n4 :=n4) (n5 :=n5) P).2.1 (ep6 (n0 :=n0) (n1 :=n1) (n2 :=n2) (n3 :=n3) (n4 :=n4) (n5 :=n5) P).2.2.1 (ep6 (n0 :=n0) (n1 :=n1) (n2 :=n2) (n3 :=n3) (n4 :=n4) (n5 :=n5) P).2.2.2.1 (ep6 (n0 :=n0) (n1 :=n1) (n2 :=n2) (n3 :=n3) (n4 :=n4) (n5 :=n5) P).2.2.2.2.1 (ep6 (n0 :=n0) (n1 :=n1) (n2 :=n2) (n3 :=n3) (n4 :=n4) (n5 :=n5) P).2.2.2.2.2) :∀ x0 x1 x2 x3 x4 x5,P x0 x1 x2 x3 x4 x5 :=fun x0 x1 x2 x3 x4 x5 => Classical.byContradiction fun c => @Classical.epsilon_spec _ (fun x :α0 × α1 × α2 × α3 × α4 × α5 => ¬ P x.1 x.2.1 x.2.2.1 x.2.2.2.1 x.2.2.2.2.1 x.2.2.2.2.2) ⟨(x0,x1,x2,x3,x4,x5),c⟩ h
noncomputable def es6 {α0 α1 α2 α3 α4 α5 :Type} {n0 :Nonempty α0} {n1 :Nonempty α1} {n2 :Nonempty α2} {n3 :Nonempty α3} {n4 :Nonempty α4} {n5 :Nonempty α5} (P :α0 → α1 → α2 → α3 → α4 → α5 → Prop) :α0 × α1 × α2 × α3 × α4 × α5 :=@Classical.epsilon _ (n0.elim fun x0 => n1.elim fun x1 => n2.elim fun x2 => n3.elim fun x3 => n4.elim fun x4 => n5.elim fun x5 => ⟨(x0,x1,x2,x3,x4,x5)⟩) fun x => P x.1 x.2.1 x.2.2.1 x.2.2.2.1 x.2.2.2.2.1 x.2.2.2.2.2
theorem exi6 {α0 α1 α2 α3 α4 α5 :Type} (n0 :Nonempty α0 :=by k_extra "ne") (n1 :Nonempty α1 :=by k_extra "ne") (n2 :Nonempty α2 :=by k_extra "ne") (n3 :Nonempty α3 :=by k_extra "ne") (n4 :Nonempty α4 :=by k_extra "ne") (n5 :Nonempty α5 :=by k_extra "ne") {P :α0 → α1 → α2 → α3 → α4 → α5 → Prop} {G :Prop} (h :P (es6 (n0 :=n0) (n1 :=n1) (n2 :=n2) (n3 :=n3) (n4 :=n4) (n5 :=n5) P).1 (es6 (n0 :=n0) (n1 :=n1) (n2 :=n2) (n3 :=n3) (n4 :=n4) (n5 :=n5) P).2.1 (es6 (n0 :=n0) (n1 :=n1) (n2 :=n2) (n3 :=n3) (n4 :=n4) (n5 :=n5) P).2.2.1 (es6 (n0 :=n0) (n1 :=n1) (n2 :=n2) (n3 :=n3) (n4 :=n4) (n5 :=n5) P).2.2.2.1 (es6 (n0 :=n0) (n1 :=n1) (n2 :=n2) (n3 :=n3) (n4 :=n4) (n5 :=n5) P).2.2.2.2.1 (es6 (n0 :=n0) (n1 :=n1) (n2 :=n2) (n3 :=n3) (n4 :=n4) (n5 :=n5) P).2.2.2.2.2 → G) :(∃ x0 x1 x2 x3 x4 x5,P x0 x1 x2 x3 x4 x5) → G :=fun e => e.elim fun x0 e => e.elim fun x1 e => e.elim fun x2 e => e.elim fun x3 e => e.elim fun x4 e => e.elim fun x5 e => h (@Classical.epsilon_spec _ (fun x :α0 × α1 × α2 × α3 × α4 × α5 => P x.1 x.2.1 x.2.2.1 x.2.2.2.1 x.2.2.2.2.1 x.2.2.2.2.2) ⟨(x0,x1,x2,x3,x4,x5),e⟩)
theorem pr7 {α0 α1 α2 α3 α4 α5 α6 :Type} {P :α0 → α1 → α2 → α3 → α4 → α5 → α6 → Prop} (h :∀ x0 x1 x2 x3 x4 x5 x6,P x0 x1 x2 x3 x4 x5 x6) :∀ x0 x1 x2 x3 x4 x5 x6,P x0 x1 x2 x3 x4 x5 x6 :=h
noncomputable def ep7 {α0 α1 α2 α3 α4 α5 α6 :Type} {n0 :Nonempty α0} {n1 :Nonempty α1} {n2 :Nonempty α2} {n3 :Nonempty α3} {n4 :Nonempty α4} {n5 :Nonempty α5} {n6 :Nonempty α6} (P :α0 → α1 → α2 → α3 → α4 → α5 → α6 → Prop) :α0 × α1 × α2 × α3 × α4 × α5 × α6 :=@Classical.epsilon _ (n0.elim fun x0 => n1.elim fun x1 => n2.elim fun x2 => n3.elim fun x3 => n4.elim fun x4 => n5.elim fun x5 => n6.elim fun x6 => ⟨(x0,x1,x2,x3,x4,x5,x6)⟩) fun x => ¬ P x.1 x.2.1 x.2.2.1 x.2.2.2.1 x.2.2.2.2.1 x.2.2.2.2.2.1 x.2.2.2.2.2.2
theorem ei7 {α0 α1 α2 α3 α4 α5 α6 :Type} (n0 :Nonempty α0 :=by k_extra "ne") (n1 :Nonempty α1 :=by k_extra "ne") (n2 :Nonempty α2 :=by k_extra "ne") (n3 :Nonempty α3 :=by k_extra "ne") (n4 :Nonempty α4 :=by k_extra "ne") (n5 :Nonempty α5 :=by k_extra "ne") (n6 :Nonempty α6 :=by k_extra "ne") {P :α0 → α1 → α2 → α3 → α4 → α5 → α6 → Prop} (h :P (ep7 (n0 :=n0) (n1 :=n1) (n2 :=n2) (n3 :=n3) (n4 :=n4) (n5 :=n5) (n6 :=n6) P).1 (ep7 (n0 :=n0) (n1 :=n1) (n2 :=n2) (n3 :=n3) (n4 :=n4) (n5 :=n5) (n6 :=n6) P).2.1 (ep7 (n0 :=n0) (n1 :=n1) (n2 :=n2) (n3 :=n3) (n4 :=n4) (n5 :=n5) (n6 :=n6) P).2.2.1 (ep7 (n0 :=n0) (n1 :=n1) (n2 :=n2) (n3 :=n3) (n4 :=n4) (n5 :=n5) (n6 :=n6) P).2.2.2.1 (ep7 (n0 :=n0) (n1 :=n1) (n2 :=n2) (n3 :=n3) (n4 :=n4) (n5 :=n5) (n6 :=n6) P).2.2.2.2.1 (ep7 (n0 :=n0) (n1 :=n1) (n2 :=n2) (n3 :=n3) (n4 :=n4) (n5 :=n5) (n6 :=n6) P).2.2.2.2.2.1 (ep7 (n0 :=n0) (n1 :=n1) (n2 :=n2) (n3 :=n3) (n4 :=n4) (n5 :=n5) (n6 :=n6) P).2.2.2.2.2.2) :∀ x0 x1 x2 x3 x4 x5 x6,P x0 x1 x2 x3 x4 x5 x6 :=fun x0 x1 x2 x3 x4 x5 x6 => Classical.byContradiction fun c => @Classical.epsilon_spec _ (fun x :α0 × α1 × α2 × α3 × α4 × α5 × α6 => ¬ P x.1 x.2.1 x.2.2.1 x.2.2.2.1 x.2.2.2.2.1 x.2.2.2.2.2.1 x.2.2.2.2.2.2) ⟨(x0,x1,x2,x3,x4,x5,x6),c⟩ h
noncomputable def es7 {α0 α1 α2 α3 α4 α5 α6 :Type} {n0 :Nonempty α0} {n1 :Nonempty α1} {n2 :Nonempty α2} {n3 :Nonempty α3} {n4 :Nonempty α4} {n5 :Nonempty α5} {n6 :Nonempty α6} (P :α0 → α1 → α2 → α3 → α4 → α5 → α6 → Prop) :α0 × α1 × α2 × α3 × α4 × α5 × α6 :=@Classical.epsilon _ (n0.elim fun x0 => n1.elim fun x1 => n2.elim fun x2 => n3.elim fun x3 => n4.elim fun x4 => n5.elim fun x5 => n6.elim fun x6 => ⟨(x0,x1,x2,x3,x4,x5,x6)⟩) fun x => P x.1 x.2.1 x.2.2.1 x.2.2.2.1 x.2.2.2.2.1 x.2.2.2.2.2.1 x.2.2.2.2.2.2
theorem exi7 {α0 α1 α2 α3 α4 α5 α6 :Type} (n0 :Nonempty α0 :=by k_extra "ne") (n1 :Nonempty α1 :=by k_extra "ne") (n2 :Nonempty α2 :=by k_extra "ne") (n3 :Nonempty α3 :=by k_extra "ne") (n4 :Nonempty α4 :=by k_extra "ne") (n5 :Nonempty α5 :=by k_extra "ne") (n6 :Nonempty α6 :=by k_extra "ne") {P :α0 → α1 → α2 → α3 → α4 → α5 → α6 → Prop} {G :Prop} (h :P (es7 (n0 :=n0) (n1 :=n1) (n2 :=n2) (n3 :=n3) (n4 :=n4) (n5 :=n5) (n6 :=n6) P).1 (es7 (n0 :=n0) (n1 :=n1) (n2 :=n2) (n3 :=n3) (n4 :=n4) (n5 :=n5) (n6 :=n6) P).2.1 (es7 (n0 :=n0) (n1 :=n1) (n2 :=n2) (n3 :=n3) (n4 :=n4) (n5 :=n5) (n6 :=n6) P).2.2.1 (es7 (n0 :=n0) (n1 :=n1) (n2 :=n2) (n3 :=n3) (n4 :=n4) (n5 :=n5) (n6 :=n6) P).2.2.2.1 (es7 (n0 :=n0) (n1 :=n1) (n2 :=n2) (n3 :=n3) (n4 :=n4) (n5 :=n5) (n6 :=n6) P).2.2.2.2.1 (es7 (n0 :=n0) (n1 :=n1) (n2 :=n2) (n3 :=n3) (n4 :=n4) (n5 :=n5) (n6 :=n6) P).2.2.2.2.2.1 (es7 (n0 :=n0) (n1 :=n1) (n2 :=n2) (n3 :=n3) (n4 :=n4) (n5 :=n5) (n6 :=n6) P).2.2.2.2.2.2 → G) :(∃ x0 x1 x2 x3 x4 x5 x6,P x0 x1 x2 x3 x4 x5 x6) → G :=fun e => e.elim fun x0 e => e.elim fun x1 e => e.elim fun x2 e => e.elim fun x3 e => e.elim fun x4 e => e.elim fun x5 e => e.elim fun x6 e => h (@Classical.epsilon_spec _ (fun x :α0 × α1 × α2 × α3 × α4 × α5 × α6 => P x.1 x.2.1 x.2.2.1 x.2.2.2.1 x.2.2.2.2.1 x.2.2.2.2.2.1 x.2.2.2.2.2.2) ⟨(x0,x1,x2,x3,x4,x5,x6),e⟩)
theorem pr8 {α0 α1 α2 α3 α4 α5 α6 α7 :Type} {P :α0 → α1 → α2 → α3 → α4 → α5 → α6 → α7 → Prop} (h :∀ x0 x1 x2 x3 x4 x5 x6 x7,P x0 x1 x2 x3 x4 x5 x6 x7) :∀ x0 x1 x2 x3 x4 x5 x6 x7,P x0 x1 x2 x3 x4 x5 x6 x7 :=h
noncomputable def ep8 {α0 α1 α2 α3 α4 α5 α6 α7 :Type} {n0 :Nonempty α0} {n1 :Nonempty α1} {n2 :Nonempty α2} {n3 :Nonempty α3} {n4 :Nonempty α4} {n5 :Nonempty α5} {n6 :Nonempty α6} {n7 :Nonempty α7} (P :α0 → α1 → α2 → α3 → α4 → α5 → α6 → α7 → Prop) :α0 × α1 × α2 × α3 × α4 × α5 × α6 × α7 :=@Classical.epsilon _ (n0.elim fun x0 => n1.elim fun x1 => n2.elim fun x2 => n3.elim fun x3 => n4.elim fun x4 => n5.elim fun x5 => n6.elim fun x6 => n7.elim fun x7 => ⟨(x0,x1,x2,x3,x4,x5,x6,x7)⟩) fun x => ¬ P x.1 x.2.1 x.2.2.1 x.2.2.2.1 x.2.2.2.2.1 x.2.2.2.2.2.1 x.2.2.2.2.2.2.1 x.2.2.2.2.2.2.2
theorem ei8 {α0 α1 α2 α3 α4 α5 α6 α7 :Type} (n0 :Nonempty α0 :=by k_extra "ne") (n1 :Nonempty α1 :=by k_extra "ne") (n2 :Nonempty α2 :=by k_extra "ne") (n3 :Nonempty α3 :=by k_extra "ne") (n4 :Nonempty α4 :=by k_extra "ne") (n5 :Nonempty α5 :=by k_extra "ne") (n6 :Nonempty α6 :=by k_extra "ne") (n7 :Nonempty α7 :=by k_extra "ne") {P :α0 → α1 → α2 → α3 → α4 → α5 → α6 → α7 → Prop} (h :P (ep8 (n0 :=n0) (n1 :=n1) (n2 :=n2) (n3 :=n3) (n4 :=n4) (n5 :=n5) (n6 :=n6) (n7 :=n7) P).1 (ep8 (n0 :=n0) (n1 :=n1) (n2 :=n2) (n3 :=n3) (n4 :=n4) (n5 :=n5) (n6 :=n6) (n7 :=n7) P).2.1 (ep8 (n0 :=n0) (n1 :=n1) (n2 :=n2) (n3 :=n3) (n4 :=n4) (n5 :=n5) (n6 :=n6) (n7 :=n7) P).2.2.1 (ep8 (n0 :=n0) (n1 :=n1) (n2 :=n2) (n3 :=n3) (n4 :=n4) (n5 :=n5) (n6 :=n6) (n7 :=n7) P).2.2.2.1 (ep8 (n0 :=n0) (n1 :=n1) (n2 :=n2) (n3 :=n3) (n4 :=n4) (n5 :=n5) (n6 :=n6) (n7 :=n7) P).2.2.2.2.1 (ep8 (n0 :=n0) (n1 :=n1) (n2 :=n2) (n3 :=n3) (n4 :=n4) (n5 :=n5) (n6 :=n6) (n7 :=n7) P).2.2.2.2.2.1 (ep8 (n0 :=n0) (n1 :=n1) (n2 :=n2) (n3 :=n3) (n4 :=n4) (n5 :=n5) (n6 :=n6) (n7 :=n7) P).2.2.2.2.2.2.1 (ep8 (n0 :=n0) (n1 :=n1) (n2 :=n2) (n3 :=n3) (n4 :=n4) (n5 :=n5) (n6 :=n6) (n7 :=n7) P).2.2.2.2.2.2.2) :∀ x0 x1 x2 x3 x4 x5 x6 x7,P x0 x1 x2 x3 x4 x5 x6 x7 :=fun x0 x1 x2 x3 x4 x5 x6 x7 => Classical.byContradiction fun c => @Classical.epsilon_spec _ (fun x :α0 × α1 × α2 × α3 × α4 × α5 × α6 × α7 => ¬ P x.1 x.2.1 x.2.2.1 x.2.2.2.1 x.2.2.2.2.1 x.2.2.2.2.2.1 x.2.2.2.2.2.2.1 x.2.2.2.2.2.2.2) ⟨(x0,x1,x2,x3,x4,x5,x6,x7),c⟩ h
noncomputable def es8 {α0 α1 α2 α3 α4 α5 α6 α7 :Type} {n0 :Nonempty α0} {n1 :Nonempty α1} {n2 :Nonempty α2} {n3 :Nonempty α3} {n4 :Nonempty α4} {n5 :Nonempty α5} {n6 :Nonempty α6} {n7 :Nonempty α7} (P :α0 → α1 → α2 → α3 → α4 → α5 → α6 → α7 → Prop) :α0 × α1 × α2 × α3 × α4 × α5 × α6 × α7 :=@Classical.epsilon _ (n0.elim fun x0 => n1.elim fun x1 => n2.elim fun x2 => n3.elim fun x3 => n4.elim fun x4 => n5.elim fun x5 => n6.elim fun x6 => n7.elim fun x7 => ⟨(x0,x1,x2,x3,x4,x5,x6,x7)⟩) fun x => P x.1 x.2.1 x.2.2.1 x.2.2.2.1 x.2.2.2.2.1 x.2.2.2.2.2.1 x.2.2.2.2.2.2.1 x.2.2.2.2.2.2.2
theorem exi8 {α0 α1 α2 α3 α4 α5 α6 α7 :Type} (n0 :Nonempty α0 :=by k_extra "ne") (n1 :Nonempty α1 :=by k_extra "ne") (n2 :Nonempty α2 :=by k_extra "ne") (n3 :Nonempty α3 :=by k_extra "ne") (n4 :Nonempty α4 :=by k_extra "ne") (n5 :Nonempty α5 :=by k_extra "ne") (n6 :Nonempty α6 :=by k_extra "ne") (n7 :Nonempty α7 :=by k_extra "ne") {P :α0 → α1 → α2 → α3 → α4 → α5 → α6 → α7 → Prop} {G :Prop} (h :P (es8 (n0 :=n0) (n1 :=n1) (n2 :=n2) (n3 :=n3) (n4 :=n4) (n5 :=n5) (n6 :=n6) (n7 :=n7) P).1 (es8 (n0 :=n0) (n1 :=n1) (n2 :=n2) (n3 :=n3) (n4 :=n4) (n5 :=n5) (n6 :=n6) (n7 :=n7) P).2.1 (es8 (n0 :=n0) (n1 :=n1) (n2 :=n2) (n3 :=n3) (n4 :=n4) (n5 :=n5) (n6 :=n6) (n7 :=n7) P).2.2.1 (es8 (n0 :=n0) (n1 :=n1) (n2 :=n2) (n3 :=n3) (n4 :=n4) (n5 :=n5) (n6 :=n6) (n7 :=n7) P).2.2.2.1 (es8 (n0 :=n0) (n1 :=n1) (n2 :=n2) (n3 :=n3) (n4 :=n4) (n5 :=n5) (n6 :=n6) (n7 :=n7) P).2.2.2.2.1 (es8 (n0 :=n0) (n1 :=n1) (n2 :=n2) (n3 :=n3) (n4 :=n4) (n5 :=n5) (n6 :=n6) (n7 :=n7) P).2.2.2.2.2.1 (es8 (n0 :=n0) (n1 :=n1) (n2 :=n2) (n3 :=n3) (n4 :=n4) (n5 :=n5) (n6 :=n6) (n7 :=n7) P).2.2.2.2.2.2.1 (es8 (n0 :=n0) (n1 :=n1) (n2 :=n2) (n3 :=n3) (n4 :=n4) (n5 :=n5) (n6 :=n6) (n7 :=n7) P).2.2.2.2.2.2.2 → G) :(∃ x0 x1 x2 x3 x4 x5 x6 x7,P x0 x1 x2 x3 x4 x5 x6 x7) → G :=fun e => e.elim fun x0 e => e.elim fun x1 e => e.elim fun x2 e => e.elim fun x3 e => e.elim fun x4 e => e.elim fun x5 e => e.elim fun x6 e => e.elim fun x7 e => h (@Classical.epsilon_spec _ (fun x :α0 × α1 × α2 × α3 × α4 × α5 × α6 × α7 => P x.1 x.2.1 x.2.2.1 x.2.2.2.1 x.2.2.2.2.1 x.2.2.2.2.2.1 x.2.2.2.2.2.2.1 x.2.2.2.2.2.2.2) ⟨(x0,x1,x2,x3,x4,x5,x6,x7),e⟩)
open Lean in def gz (e :TSyntax `term) (xs :List (TSyntax `ident)) :MacroM (List (TSyntax `tactic)) :=do
  let r ← xs.foldlM (init :=(e,([] :List (TSyntax `tactic)),xs.length)) fun (e,o,k) x => do
    if k == 1 then return (e,o ++ [← `(tactic| generalize $e:term = $x)],0)
    return (← `(($e).2),o ++ [← `(tactic| generalize ($e).1 = $x)],k - 1)
  return r.2.1
open Lean in def gx (p q e :String) (xs :List (TSyntax `ident)) (r :TSyntax `tactic) :MacroM (TSyntax `tactic) :=do
  let n (s :String) :=mkIdent (Name.mkSimple (if p == "" && xs.length == 1 then s else s ++ toString xs.length))
  let gs :=(← gz (← `($(n e) _)) xs).toArray
  let t ← `(tactic| (refine $(n q) (h :=?_); ($[$gs];*); $r))
  if p == "" then return t
  `(tactic| ((fail_if_success (fail_if_success (with_reducible refine $(n p) ?_))); $t))
open Lean in def gf (as :List (TSyntax `tactic)) :MacroM (TSyntax `tactic) :=do
  let as :=as.toArray
  `(tactic| first $[| $as:tactic]*)
open Lean in def inz (xs :List (TSyntax `term)) :MacroM (TSyntax `tactic) :=do
  let ws :=xs.takeWhile fun x => x.raw.isIdent || x.raw.isOfKind ``Lean.Parser.Term.hole
  if ws.isEmpty then Macro.throwUnsupported
  let ns :List (TSyntax `ident) :=ws.map fun x => if x.raw.isIdent then ⟨x.raw⟩ else mkIdent `x9
  let rest (k :Nat) :MacroM (TSyntax `tactic) :=do
    let ys :=(xs.drop k).toArray
    if ys.isEmpty then `(tactic| skip) else `(tactic| intro $ys*)
  let as ← ([8,7,6,5,4,3,2,1].filter (· ≤ ns.length)).mapM fun k => do gx "pr" "ei" "ep" (ns.take k) (← rest k)
  if xs.length == 1 then gf as else
  gf (as ++ [← `(tactic| (intros $(ns.head!); $(← rest 1)))])
open Lean in def rr (ps :List (TSyntax `Lean.Parser.Tactic.rcasesPatLo)) :MacroM (TSyntax `tactic) :=do
  let qs :Syntax.TSepArray `Lean.Parser.Tactic.rcasesPatLo "," :=.ofElems ps.toArray
  `(tactic| rintro ⟨$qs,*⟩)
open Lean in def id1 (p :TSyntax `Lean.Parser.Tactic.rcasesPatLo) :Option (TSyntax `ident) :=
  let a :=p.raw[0][0]
  if a.getNumArgs == 1 && a[0][0].isIdent then some ⟨a[0][0]⟩ else none
open Lean in def ids (ps :List (TSyntax `Lean.Parser.Tactic.rcasesPatLo)) :List (TSyntax `ident) :=
  (ps.takeWhile fun p => (id1 p).isSome).filterMap id1
open Lean in def rp (p :TSyntax `Lean.Parser.Tactic.rcasesPatLo) :MacroM (TSyntax `tactic) :=do
  match id1 p with
  | some x => `(tactic| intro $x:ident)
  | none =>
    let q :TSyntax `rcasesPat :=⟨p.raw[0][0][0]⟩
    `(tactic| first | rintro $q:rcasesPat | (intro h9; rcases h9 with $p:rcasesPatLo))
open Lean in def ra (p :TSyntax `Lean.Parser.Tactic.rcasesPatLo) (qs :List (TSyntax `Lean.Parser.Tactic.rcasesPatLo)) :MacroM (TSyntax `tactic) :=do
  `(tactic| (refine andi ?_; $(← rp p); $(← rr qs)))
open Lean in def rx (ps :List (TSyntax `Lean.Parser.Tactic.rcasesPatLo)) (k :Nat) :MacroM (TSyntax `tactic) :=do
  gx "" "exi" "es" ((ids ps).take k) (← rr (ps.drop k))
open Lean in def rz (ps :List (TSyntax `Lean.Parser.Tactic.rcasesPatLo)) :MacroM (TSyntax `tactic) :=do
  match ps with
  | [] => Macro.throwUnsupported
  | [p] => if p.raw[0][0].getNumArgs == 1 && p.raw[0][0][0].isOfKind ``Lean.Parser.Tactic.rcasesPat.tuple then Macro.throwUnsupported else rp p
  | p :: qs =>
    let n :=(ids ps).length
    gf ((← ([8,7,6,5,4,3,2,1].filter fun k => k ≤ n && k < ps.length).mapM (rx ps)) ++ [← ra p qs])
open Lean in def oz (p :TSyntax `Lean.Parser.Tactic.rcasesPatMed) (e :TSyntax `term) :MacroM (TSyntax `tactic) :=do
  if p.raw[0].getNumArgs == 1 && p.raw[0][0].isOfKind ``Lean.Parser.Tactic.rcasesPat.tuple then
    let q :TSyntax `rcasesPat :=⟨p.raw[0][0]⟩
    let c :TSyntax `tactic ← if e.raw.isIdent then `(tactic| try clear $(⟨e.raw⟩):ident) else `(tactic| skip)
    `(tactic| (have h9 :=$e; $c; revert h9; rintro $q:rcasesPat))
  else Macro.throwUnsupported
end
end
section
section
structure GH (w :World) (mg mb :Str → Option Value) (G :Heap) :Prop where
  X :(Mine.hd.heap_39 w.params).In G
  T :∃ loose mean,Top topProg loose mean mg mb G
noncomputable abbrev Stay (h h' :Heap) :Prop :=∀ b o,h.get? b = some o → h'.get? b = some o
noncomputable def frm :List (Str × Value) → Str → Option Value
  | [] => fun _ => none
  | x :: l => fun z => if z = x.1 then some x.2 else frm l z
theorem frm_eq :∀ (l :List (Str × Value)),(fun y => l.lookup y) = frm l
  | [] => rfl
  | x :: l => by
    funext y
    show List.lookup y (x :: l) = if y = x.1 then some x.2 else frm l y
    rw [← frm_eq l]
    by_cases h :y = x.1
    · rw [if_pos h]; simp [List.lookup,h]
    · rw [if_neg h]
      have :(y == x.1) = false :=by simpa using h
      simp [List.lookup,this]
theorem frmF {g h :Heap} {L :Addr} {l :List (Str × Value)} (F :Fr g L h fun y => l.lookup y) :Fr g L h (frm l) :=frm_eq l ▸ F
theorem enterF {w :World} {A :Around} {s :Shared} {mg mb :Str → Option Value} {G :Heap} {news :List (Addr × Obj)} {R :Result → Shared → Prop}
    {name qual :Str} {params :Arguments} {body :List Stmt} {scope :Scope} {dV kV doc pm cdv ct oc :Value} {an od :Option Addr} {osl :Array (Option Value)} {f :Addr} {args :Args} {binds :List (Str × Value)}
    (gh :GH w mg mb G) (st :Stay G s.heap) (hn :∀ p ∈ news,s.heap.get? p.1 = some p.2 ∧ G.get? p.1 = none)
    (hroom :A.depth < recursionLimit)
    (ho :(Mine.hd.heap_39 w.params).lookup f = some ⟨oc,od,.func (fnOf name qual params body scope dV kV doc pm an cdv ct),osl⟩)
    (hcd :codeIn (Mine.hd.heap_39 w.params) cdv qual = true)
    (hbind :BindsTo s (fnOf name qual params body scope dV kV doc pm an cdv ct) args binds) (hloc :∀ y ∈ binds,scope.names.lookup y.1 = some .local)
    (h :∀ g L' h₁ tk loose mean,Fr g L' h₁ (frm binds.reverse) → News g L' h₁ news → (Mine.hd.heap_39 w.params).In g → Top topProg loose mean mg mb g → Stay G g →
      (∀ b o,s.heap.get? b = some o → b ∉ news.map (·.1) → g.get? b = some o) → (∀ b o,g.get? b = some o → s.heap.get? b = some o) → (∀ p ∈ news,p.1 < L') →
      wpAny (model rw_tg0048_01.row.prog w) (A.deeper (envOf qual scope L' f cdv)) (execs body (envOf qual scope L' f cdv))
        (fun fl s' => R (.ok (.ret (match fl with | .ret v => v | _ => .none))) s')
        (fun e s' => wpAny (model rw_tg0048_01.row.prog w) (A.deeper (envOf qual scope L' f cdv)) (leaving (envOf qual scope L' f cdv) e) (fun _ s'' => R (.error e) s'') (fun e' s'' => R (.error e') s'') s')
        { s with heap :=h₁,toks :=tk })
    (hco :scope.isCoroutine = false) (hgen :scope.isGenerator = false) (hk :scope.kind = .function)
    (hcell :∀ x ∈ scope.names,x.2 ≠ .cell) :codeAny (model rw_tg0048_01.row.prog w) A (.call (.ref f) args) R s :=by
  obtain ⟨loose,mean,T⟩ :=gh.T
  have hS :=T.nolimit.keeps st
  refine codeAny_call_def (fd :=fnOf name qual params body scope dV kV doc pm an cdv ct) (body :=body) (binds :=binds) hroom (st _ _ (gh.X _ _ ho)) rfl hS (codeRec_of (gh.X.keeps st) hcd) rfl hbind hcell hloc (fun h₁ hns hk₁ => ?_) hco hgen hk
  have nG :∀ b o,G.get? b = some o → b ∉ news.map (·.1) :=fun b o e q => by
    obtain ⟨p,hp,rfl⟩ :=List.mem_map.mp q
    rw [(hn p hp).2] at e; cases e
  have sg :Stay G (hideAll s.heap (news.map (·.1))) :=fun b o e => hideAll_get _ (st b o e) (nG b o e)
  exact h (hideAll s.heap (news.map (·.1))) s.heap.objs.size h₁ _ loose mean (frmF ⟨hns,fun b o e => hk₁ b o (of_hideAll _ e),Nat.le_of_eq (hideAll_size _ _)⟩)
    (fun p hp => ⟨hk₁ _ _ (hn p hp).1,Nat.ne_of_lt (Heap.lt_size (hn p hp).1),hideAll_none _ (List.mem_map_of_mem hp)⟩) (gh.X.keeps sg) (T.keeps sg) sg
    (fun b o e nb => hideAll_get _ e nb) (fun b o e => of_hideAll _ e) (fun p hp => Heap.lt_size (hn p hp).1)
noncomputable def HN (G h :Heap) (news :List (Addr × Obj)) :Prop :=∀ p ∈ news,h.get? p.1 = some p.2 ∧ G.get? p.1 = none
theorem HN.of {G g h :Heap} {L :Addr} {news :List (Addr × Obj)} (N :News g L h news) (sg :Stay G g) :HN G h news :=fun p hp => ⟨(N p hp).1,by
  cases q :G.get? p.1 with
  | none => rfl
  | some o => have :=sg _ _ q; rw [(N p hp).2.2] at this; cases this⟩
theorem HN.sub {G h :Heap} {news news' :List (Addr × Obj)} (H :HN G h news) (hs :∀ p ∈ news',p ∈ news) :HN G h news' :=fun p hp => H p (hs p hp)
noncomputable def RetG (s :Shared) (news :List (Addr × Obj)) (P :Value → List (Addr × Obj) → Prop) (r :Value) (s' :Shared) :Prop :=
  ∃ h' tk tl,s' = { s with heap :=h',toks :=tk } ∧ Stay s.heap h' ∧ (∀ p ∈ tl,h'.get? p.1 = some p.2 ∧ s.heap.get? p.1 = none ∧ ∀ q ∈ news,q.1 ≠ p.1) ∧ P r tl
theorem stay_of {g h h' :Heap} {L :Addr} {m :Str → Option Value} {news news' :List (Addr × Obj)} (F :Fr g L h' m) (N :News g L h' news')
    (kp :∀ b o,h.get? b = some o → b ∉ news.map (·.1) → g.get? b = some o) (hn :∀ p ∈ news,h.get? p.1 = some p.2) (hs :∀ p ∈ news,p ∈ news') :Stay h h' :=fun b o e => by
  by_cases hb :b ∈ news.map (·.1)
  · obtain ⟨p,hp,rfl⟩ :=List.mem_map.mp hb
    rw [hn p hp] at e; cases e
    exact (N p (hs p hp)).1
  · exact F.keep _ _ (kp _ _ e hb)
theorem none_of {g h :Heap} {x :Addr} {news :List (Addr × Obj)} (kp :∀ b o,h.get? b = some o → b ∉ news.map (·.1) → g.get? b = some o) (hx :g.get? x = none) (hlt :∀ q ∈ news,q.1 ≠ x) :h.get? x = none :=by
  cases q :h.get? x with
  | none => rfl
  | some o =>
    have :=kp _ _ q fun hm => by
      obtain ⟨p,hp,e⟩ :=List.mem_map.mp hm
      exact hlt p hp e
    rw [hx] at this; cases this
theorem retG {G g h' :Heap} {L :Addr} {m :Str → Option Value} {news news' :List (Addr × Obj)} {s :Shared} {P :Value → List (Addr × Obj) → Prop} {r :Value} {tk :Nat} (tl :List (Addr × Obj))
    (F :Fr g L h' m) (N :News g L h' news') (kp :∀ b o,s.heap.get? b = some o → b ∉ news.map (·.1) → g.get? b = some o) (hn :HN G s.heap news)
    (hs :∀ p ∈ news,p ∈ news') (ht :∀ p ∈ tl,p ∈ news') (hlt :∀ p ∈ tl,∀ q ∈ news,q.1 ≠ p.1) (hP :P r tl) :
    RetG s news P r { s with heap :=h',toks :=tk } :=
  ⟨h',tk,tl,rfl,stay_of F N kp (fun p hp => (hn p hp).1) hs,fun p hp => ⟨(N p (ht p hp)).1,none_of kp (N p (ht p hp)).2.2 (hlt p hp),hlt p hp⟩,hP⟩
theorem retG0 {G g h' :Heap} {L :Addr} {m :Str → Option Value} {news news' :List (Addr × Obj)} {s :Shared} {P :Value → List (Addr × Obj) → Prop} {r :Value} {tk :Nat}
    (F :Fr g L h' m) (N :News g L h' news') (kp :∀ b o,s.heap.get? b = some o → b ∉ news.map (·.1) → g.get? b = some o) (hn :HN G s.heap news)
    (hs :∀ p ∈ news,p ∈ news') (hP :P r []) :RetG s news P r { s with heap :=h',toks :=tk } :=
  retG [] F N kp hn hs (fun _ h => nomatch h) (fun _ h => nomatch h) hP
theorem useG {M :Model} {A :Around} {E :Value → Shared → Prop} {s :Shared} {g :Heap} {L :Addr} {m :Str → Option Value} {news :List (Addr × Obj)} {t :Sem Value} {P :Value → List (Addr × Obj) → Prop} {Q :Value → Shared → Prop}
    (spec :wpAny M A t (RetG s news P) (fun _ _ => False) s) (F :Fr g L s.heap m) (N :News g L s.heap news)
    (k :∀ r tl h' tk,P r tl → Fr g L h' m → News g L h' (tl ++ news) → (∀ p ∈ tl,∀ q ∈ news,q.1 ≠ p.1) → Q r { s with heap :=h',toks :=tk }) :wpAny M A t Q E s :=by
  refine wpAny_mono spec (fun r s' hr => ?_) fun _ _ x => x.elim
  obtain ⟨h',tk,tl,rfl,st,ht,hP⟩ :=hr
  obtain ⟨oL,es,ep,hL,r1,r2,r3⟩ :=F.ns
  have F' :Fr g L h' m :=⟨⟨oL,es,ep,st _ _ hL,r1,r2,r3⟩,fun b o e => st _ _ (F.keep b o e),F.above⟩
  refine k r tl h' tk hP F' (fun p hp => ?_) (fun p hp => (ht p hp).2.2)
  rcases List.mem_append.mp hp with hp | hp
  · refine ⟨(ht p hp).1,fun e => ?_,?_⟩
    · have :=(ht p hp).2.1; rw [e,hL] at this; cases this
    · cases q :g.get? p.1 with
      | none => rfl
      | some o => have :=F.keep _ _ q; rw [(ht p hp).2.1] at this; cases this
  · exact ⟨st _ _ (N p hp).1,(N p hp).2⟩
noncomputable def OutL (h₀ :Heap) (L :Addr) (m :Str → Option Value) (s :Shared) (news :List (Addr × Obj)) (J :Value → Prop) (y :Value) (s' :Shared) :Prop :=
  J y ∧ ∃ h' tk',s' = { s with heap :=h',toks :=tk' } ∧ Fr h₀ L h' m ∧ News h₀ L h' news
theorem outL {h₀ h' :Heap} {L :Addr} {m :Str → Option Value} {s :Shared} {news :List (Addr × Obj)} {J :Value → Prop} {y :Value} {tk' :Nat} (F :Fr h₀ L h' m) (N :News h₀ L h' news) (hJ :J y) :OutL h₀ L m s news J y { s with heap :=h',toks :=tk' } :=
  ⟨hJ,h',tk',rfl,F,N⟩
open PyProof.Rows.LCg in
theorem rest_list {prog :Program} {w :World} {A :Around} {h₀ :Heap} {L :Addr} {m :Str → Option Value} {env :Env} {elt :Expr} {x :Str} {scope :Scope} {cl :List (Str × Addr)} {s :Shared} {S :List (Addr × Obj) → Prop}
    {Fin :List Value → List (Addr × Obj) → Prop} {news :List (Addr × Obj)} {ws :List Value} {rs :List Int} (hI :IntsAre ws rs) (hS :S news) (J :Int → Value → Prop)
    (turn :∀ n t I oI C oC D ys m₂ h tk (E' :Value → Shared → Prop),n ∈ rs → NsObj oC m₂ → m₂ x = some (.int n t) → Fr h₀ L h m → News h₀ L h ((I,oI) :: (C,oC) :: (D,lst ys) :: news) →
      wpAny (model prog w) A (eval elt (compEnvC scope cl C env)) (OutL h₀ L m { s with heap :=h,toks :=tk } ((I,oI) :: (C,oC) :: (D,lst ys) :: news) (J n)) E' { s with heap :=h,toks :=tk })
    (fin :∀ ys,Paired J rs ys → Fin ys news) :CompRest prog w A h₀ L m env elt x scope cl s S (fun i v => ws.toArray[i]? = some v) Fin ws.toArray.size 0 [] news :=by
  have go :∀ k i ys,i + k = rs.length → Paired J (rs.take i) ys → CompRest prog w A h₀ L m env elt x scope cl s S (fun i v => ws.toArray[i]? = some v) Fin k i ys news :=by
    intro k
    induction k with
    | zero =>
      intro i ys e p
      refine CompRest.zero (fin ys ?_)
      rwa [List.take_of_length_le (by omega)] at p
    | succ k ih =>
      intro i ys e p
      refine CompRest.succ ?_
      intro v I oI C oC D m₂ h tk E' hv hC hx F N off ne
      have hlt :i < rs.length :=by omega
      obtain ⟨t,ht⟩ :=hI.get i rs[i] (List.getElem?_eq_getElem hlt)
      have hv' :v = .int rs[i] t :=by
        have :ws[i]? = some v :=by simpa using hv
        rw [ht] at this; exact (Option.some.inj this).symm
      subst hv'
      refine wpAny_mono (turn rs[i] t I oI C oC D ys m₂ h tk E' (List.getElem_mem hlt) hC hx F N) (fun y s' hy => ?_) fun _ _ z => z
      obtain ⟨hJ,h',tk',rfl,F',N'⟩ :=hy
      refine CompEnd.intro F' N' news (fun p hp => hp) off hS (ih (i + 1) (ys ++ [y]) (by omega) ?_)
      have e1 :rs.take (i + 1) = rs.take i ++ [rs[i]] :=by rw [List.take_add_one,List.getElem?_eq_getElem hlt]; rfl
      rw [e1]
      exact Paired.snoc p hJ
  have hlen :=hI.length
  refine (by simpa [hlen] using go rs.length 0 [] (by omega) (by simpa using Paired.nil))
theorem paired_ints {f :Int → Int} {rs :List Int} {ys :List Value} (h :Paired (fun n y => ∃ u,y = Value.int (f n) u) rs ys) :IntsAre ys (rs.map f) :=by
  induction h with
  | nil => exact .nil
  | cons h _ ih => obtain ⟨u,rfl⟩ :=h; exact .cons _ _ ih
theorem off1_ne {D :Addr} :∀ {l :List (Addr × Obj)},LCg.Off1 D l → ∀ p ∈ l,p.1 ≠ D
  | [],_,_,h => nomatch h
  | _ :: _,x,p,h => by
    rcases List.mem_cons.mp h with rfl | h
    · exact x.1
    · exact off1_ne x.2 p h
theorem leave_frame {g g2 h1 h2 :Heap} {L L2 :Addr} {m m2 :Str → Option Value} {n1 n2 :List (Addr × Obj)} (F :Fr g L h1 m) (N :News g L h1 n1) (F2 :Fr g2 L2 h2 m2) (N2 :News g2 L2 h2 n2)
    (kp :∀ b o,h1.get? b = some o → b ∉ n1.map (·.1) → g2.get? b = some o) :Fr g L h2 m ∧ News g L h2 n2 :=by
  have old :∀ b o,h1.get? b = some o → b ∉ n1.map (·.1) → h2.get? b = some o :=fun b o e nb => F2.keep _ _ (kp _ _ e nb)
  obtain ⟨oL,es,ep,hL,r⟩ :=F.ns
  have nL :L ∉ n1.map (·.1) :=fun q => by
    obtain ⟨p,hp,e⟩ :=List.mem_map.mp q
    exact (N p hp).2.1 e
  have nG :∀ b o,g.get? b = some o → b ∉ n1.map (·.1) :=fun b o e q => by
    obtain ⟨p,hp,rfl⟩ :=List.mem_map.mp q
    rw [(N p hp).2.2] at e; cases e
  refine ⟨⟨⟨oL,es,ep,old _ _ hL nL,r⟩,fun b o e => old _ _ (F.keep _ _ e) (nG _ _ e),F.above⟩,fun p hp => ?_⟩
  by_cases hb :p.1 ∈ n1.map (·.1)
  · obtain ⟨q,hq,e⟩ :=List.mem_map.mp hb
    exact ⟨(N2 p hp).1,e ▸ (N q hq).2.1,e ▸ (N q hq).2.2⟩
  · refine ⟨(N2 p hp).1,fun e => ?_,?_⟩
    · have :=kp _ _ hL nL
      rw [← e,(N2 p hp).2.2] at this; cases this
    · cases q :g.get? p.1 with
      | none => rfl
      | some o => have :=kp _ _ (F.keep _ _ q) hb; rw [(N2 p hp).2.2] at this; cases this
theorem lt_head {x y :Addr} {o :Obj} {l :List (Addr × Obj)} (h :∀ q ∈ (x,o) :: l,q.1 < y) :x < y :=h _ List.mem_cons_self
theorem ints_rep (k :Int) (t :Tok) :∀ n :Nat,IntsAre (List.replicate n [Value.int k t]).flatten (List.replicate n k)
  | 0 => .nil
  | n + 1 => by rw [List.replicate_succ,List.flatten_cons,List.replicate_succ]; exact .cons k t (ints_rep k t n)
theorem enterC {w :World} {A :Around} {s :Shared} {mg mb :Str → Option Value} {G :Heap} {news :List (Addr × Obj)} {R :Result → Shared → Prop}
    {name qual :Str} {params :Arguments} {body :List Stmt} {scope :Scope} {dV kV doc pm cdv ct oc :Value} {an od :Option Addr} {osl :Array (Option Value)} {f :Addr} {args :Args} {binds :List (Str × Value)}
    (gh :GH w mg mb G) (st :Stay G s.heap) (hn :∀ p ∈ news,s.heap.get? p.1 = some p.2 ∧ G.get? p.1 = none)
    (hroom :A.depth < recursionLimit)
    (ho :(Mine.hd.heap_39 w.params).lookup f = some ⟨oc,od,.func (fnOf name qual params body scope dV kV doc pm an cdv ct),osl⟩)
    (hcd :codeIn (Mine.hd.heap_39 w.params) cdv qual = true)
    (hbind :BindsTo s (fnOf name qual params body scope dV kV doc pm an cdv ct) args binds)
    (hkind :(binds.all fun y => scope.names.lookup y.1 == some .local || scope.names.lookup y.1 == some .cell) = true)
    (hnd :((cellsFrom 0 scope.names []).map (·.1)).Nodup)
    (h :∀ g L' h₁ tk cells loose mean,Fr g L' h₁ (bindL (envOfC qual scope L' f cdv).kindOf binds fun _ => none) → News g L' h₁ (cells ++ news) →
      CellsAre (bindC (envOfC qual scope L' f cdv).kindOf binds fun _ => none) (cellsFrom (L' + 1) scope.names []) cells → (Mine.hd.heap_39 w.params).In g → Top topProg loose mean mg mb g → Stay G g →
      (∀ b o,s.heap.get? b = some o → b ∉ news.map (·.1) → g.get? b = some o) → (∀ b o,g.get? b = some o → s.heap.get? b = some o) → (∀ p ∈ news,p.1 < L') →
      wpAny (model rw_tg0048_01.row.prog w) (A.deeper (envOfC qual scope L' f cdv)) (execs body (envOfC qual scope L' f cdv))
        (fun fl s' => R (.ok (.ret (match fl with | .ret v => v | _ => .none))) s')
        (fun e s' => wpAny (model rw_tg0048_01.row.prog w) (A.deeper (envOfC qual scope L' f cdv)) (leaving (envOfC qual scope L' f cdv) e) (fun _ s'' => R (.error e) s'') (fun e' s'' => R (.error e') s'') s')
        { s with heap :=h₁,toks :=tk })
    (hco :scope.isCoroutine = false) (hgen :scope.isGenerator = false) (hk :scope.kind = .function) :codeAny (model rw_tg0048_01.row.prog w) A (.call (.ref f) args) R s :=by
  obtain ⟨loose,mean,T⟩ :=gh.T
  have hS :=T.nolimit.keeps st
  have nG :∀ b o,G.get? b = some o → b ∉ news.map (·.1) :=fun b o e q => by
    obtain ⟨p,hp,rfl⟩ :=List.mem_map.mp q
    rw [(hn p hp).2] at e; cases e
  have sg :Stay G (hideAll s.heap (news.map (·.1))) :=fun b o e => hideAll_get _ (st b o e) (nG b o e)
  refine codeAny_call_function hroom (st _ _ (gh.X _ _ ho)) rfl hco hgen rfl (codeRec_of (gh.X.keeps st) hcd) (hbind _ _ _ _ ?_)
  refine wpAny_newFunctionEnv_cells hk (kindsX hkind _) fun env' he s' x => ?_
  subst he
  refine ⟨hS.keeps x.toInCall.keep,codeAny_func ?_⟩
  obtain ⟨h₁,tk,rfl,_⟩ :=x.done
  have hk₁ :=x.toInCall.keep
  obtain ⟨cells,NC,Y⟩ :=Cl.news (h₀ :=s.heap) (Nat.le_refl _) fun n c hm => ⟨x.cell n c (lookup_of_mem_nodup (cellsFrom_names scope.names 0 (s.heap.objs.size + 1) [] [] rfl ▸ hnd) hm),x.above n c hm⟩
  refine h (hideAll s.heap (news.map (·.1))) s.heap.objs.size h₁ tk cells loose mean ⟨x.toInCall.ns,fun b o e => hk₁ b o (of_hideAll _ e),Nat.le_of_eq (hideAll_size _ _)⟩ (fun p hp => ?_) Y (gh.X.keeps sg) (T.keeps sg) sg
    (fun b o e nb => hideAll_get _ e nb) (fun b o e => of_hideAll _ e) (fun p hp => Heap.lt_size (hn p hp).1)
  rcases List.mem_append.mp hp with hp | hp
  · refine ⟨(NC p hp).1,(NC p hp).2.1,?_⟩
    cases q :(hideAll s.heap (news.map (·.1))).get? p.1 with
    | none => rfl
    | some o => have :=of_hideAll _ q; rw [(NC p hp).2.2] at this; cases this
  · exact ⟨hk₁ _ _ (hn p hp).1,Nat.ne_of_lt (Heap.lt_size (hn p hp).1),hideAll_none _ (List.mem_map_of_mem hp)⟩
theorem off1_of {D :Addr} :∀ {l :List (Addr × Obj)},(∀ p ∈ l,p.1 ≠ D) → LCg.Off1 D l
  | [],_ => trivial
  | _ :: _,h => ⟨h _ List.mem_cons_self,off1_of fun p hp => h p (List.mem_cons_of_mem _ hp)⟩
theorem rec_l {n i :Nat} (hn :n = 1408) (hi :i < 8) :min 32 (n - 32 * i) = 32 :=by
  subst hn
  exact Nat.min_eq_left (Nat.le_sub_of_add_le (Nat.le_trans (Nat.add_le_add_left (Nat.mul_le_mul_left 32 (Nat.le_of_lt_succ hi :i ≤ 7)) 32) (by decide)))
end
end
section
section
noncomputable def TracedD (base h :Heap) (e :Addr) (cls :Value) (dx :Addr) (fl :Value) :Prop :=
  ∃ oe vs T oT ts,h.get? e = some oe ∧ (oe.cls = cls ∧ oe.dict = some dx) ∧ oe.data = .fields vs ∧ vs[1]? = some (.ref T) ∧ base.get? T = none ∧ T ≠ e ∧ h.get? T = some oT ∧ oT.data = .fields ts ∧ ts[3]? = some fl
structure WayD (base h h' :Heap) (l :List Env) :Prop where
  stays :base.StaysIn h'
  frames :h'.FunFrames base l
  slots :h.UpToSlots h'
theorem dict_mapF (o :Obj) (f :Array Value → Array Value) :(o.mapFields f).dict = o.dict :=by
  obtain ⟨c,d,dt,sl⟩ :=o
  cases dt <;> rfl
section
variable {M :Model} {A :Around} {E :Value → Shared → Prop} {s :Shared} {base :Heap} {env :Env} {outer :List Env} {L e dx :Addr} {cls :Value} {Q :Unit → Shared → Prop}
theorem entryD {oe :Obj} {vs :Array Value} {head :Value} {hadNext :Bool}
    (hfr :A.frames = some (env :: outer)) (hl :s.heap.FunFrames base (env :: outer)) (hf :env.frame = some L)
    (he :s.heap.get? e = some oe) (hdx :oe.dict = some dx) (hkb :base.StaysIn s.heap) (hen :base.get? e = none) (hd :oe.data = .fields vs) (hsz :1 < vs.size)
    (h :∀ h',WayD base s.heap h' (env :: outer) → TracedD base h' e oe.cls dx (rawInt L) → Q () { s with heap :=h' }) :
    wpAny M A (do let a ← frameOf env; let pl ← entryPlaceOf L hadNext; let b ← EntryCells.newEntry head a .none (rawInt L) .none pl; setField (.ref e) 1 b) Q E s :=by
  have hene :e ∉ (env :: outer).filterMap (·.frame) :=fun hm => by
    obtain ⟨_,o,ho,hnf⟩ :=hl.mem hm
    rw [he] at ho; injection ho with ho; subst ho; exact hnf vs hd
  refine wpAny_bind (wpAny_frameOf_fun hfr hl hf fun h₁ hs₁ => ?_)
  refine wpAny_bind (wpAny_entryPlaceOf fun pl hpl => ?_)
  unfold EntryCells.newEntry newFields
  refine wpAny_bind (wpAny_newObj_type ?_ (hpl.sizeOk5 _ _ _ _ _))
  have he₁ :h₁.get? e = some oe :=(hs₁.2.1 e hene).trans he
  have kb₁ :base.StaysIn h₁ :=fun b o hbo => (hs₁.2.1 b fun hm => by rw [(hl.mem hm).1] at hbo; cases hbo).trans (hkb b o hbo)
  generalize hob :({ cls :=.type "traceback",dict :=none,data :=.fields ([head,.ref L,.none,rawInt L,.none] ++ (if pl.isEmpty then List.replicate 6 Value.none else pl)).toArray } :Obj) = ob
  have he₂ :=Heap.get?_push_of_some (h :=h₁) ob he₁
  refine wpAny_setField he₂ hd hsz (h _ ?_ ?_)
  · have keep :∀ b o,b ≠ e → h₁.get? b = some o → ((h₁.push ob).update e (Obj.mapFields (·.setIfInBounds 1 (Value.ref h₁.objs.size)))).get? b = some o :=fun b o hbe hb => by
      rw [Heap.get?_update_other _ _ (Ne.symm hbe)]
      exact Heap.get?_push_of_some _ hb
    have nr :∀ b o,s.heap.get? b = some o → (∀ vs,o.data ≠ .fields vs) → b ≠ e :=fun b o hb hnf q => by
      rw [q,he] at hb; injection hb with hb; subst hb; exact hnf vs hd
    refine ⟨fun b o hbo => keep b o (fun q => by rw [q,hen] at hbo; cases hbo) (kb₁ b o hbo),hl.of_keeps fun b o hb hnf => ?_,fun b o hb hnf => ?_⟩
    · obtain ⟨sl,hs⟩ :=hs₁.2.2 b o hb
      exact ⟨_,keep b _ (nr b o hb hnf) hs,rfl⟩
    · obtain ⟨sl,hs⟩ :=hs₁.2.2 b o hb
      exact ⟨sl,keep b _ (nr b o hb hnf) hs⟩
  · have hTe :h₁.objs.size ≠ e :=Nat.ne_of_gt (Heap.lt_size he₁)
    have hd₃ :=Obj.data_mapFields hd (·.setIfInBounds 1 (Value.ref h₁.objs.size))
    have he₃ :=Heap.get?_update_self (Obj.mapFields (·.setIfInBounds 1 (Value.ref h₁.objs.size))) he₂ (Obj.isFreed_of_fields hd₃)
    have hT₃ :=(Heap.get?_update_other (h₁.push ob) (Obj.mapFields (·.setIfInBounds 1 (Value.ref h₁.objs.size))) (Ne.symm hTe)).trans (Heap.get?_push_size h₁ (by rw [← hob]; rfl))
    refine ⟨_,_,h₁.objs.size,_,_,he₃,⟨Obj.cls_mapFields _ _,(dict_mapF _ _).trans hdx⟩,hd₃,by simp [hsz],kb₁.fresh,hTe,hT₃,by rw [← hob],by first | (simp; done) | (rcases hpl with rfl | ⟨_,_,_,_,_,_,_,rfl⟩ <;> simp)⟩
theorem noteD_first {oe :Obj} {vs :Array Value} (hfr :A.frames = some (env :: outer)) (hl :s.heap.FunFrames base (env :: outer)) (hf :env.frame = some L)
    (he :s.heap.get? e = some oe) (hdx :oe.dict = some dx) (hkb :base.StaysIn s.heap) (hen :base.get? e = none) (hd :oe.data = .fields vs) (h1 :vs[1]? = some .none)
    (h :∀ h',WayD base s.heap h' (env :: outer) → TracedD base h' e oe.cls dx (rawInt L) → Q () { s with heap :=h' }) :wpAny M A (noteFrame (.ref e) env) Q E s :=by
  unfold noteFrame
  simp only [hf]
  refine wpAny_bind (wpAny_field he hd h1 ?_)
  rw [if_neg (by decide)]
  exact entryD hfr hl hf he hdx hkb hen hd (Array.getElem?_eq_some_iff.mp h1).1 h
theorem noteD_next (hfr :A.frames = some (env :: outer)) (hl :s.heap.FunFrames base (env :: outer)) (hf :env.frame = some L)
    (ht :TracedD base s.heap e cls dx .none) (hkb :base.StaysIn s.heap) (hen :base.get? e = none)
    (h :∀ h',WayD base s.heap h' (env :: outer) → TracedD base h' e cls dx (rawInt L) → Q () { s with heap :=h' }) :wpAny M A (noteFrame (.ref e) env) Q E s :=by
  obtain ⟨oe,vs,T,oT,ts,he,⟨hcls,hdx⟩,hd,h1,hnT,hTe,hT,hdT,h3⟩ :=ht
  subst hcls
  unfold noteFrame
  simp only [hf]
  refine wpAny_bind (wpAny_field he hd h1 ?_)
  rw [if_pos (show (Value.ref T != Value.none) = true from by simp)]
  refine wpAny_bind (wpAny_field hT hdT h3 ?_)
  rw [if_neg (show ¬ ((Value.none == rawInt L) = true) from by simp [rawInt])]
  refine wpAny_bind (wpAny_setField hT hdT (Array.getElem?_eq_some_iff.mp h3).1 ?_)
  have other :∀ b,b ≠ T → (s.heap.update T (Obj.mapFields (·.setIfInBounds 3 Value.none))).get? b = s.heap.get? b :=fun b hb => Heap.get?_update_other _ _ (Ne.symm hb)
  have nr :∀ b o,s.heap.get? b = some o → (∀ vs,o.data ≠ .fields vs) → b ≠ T :=fun b o hb hnf q => by
    rw [q,hT] at hb; injection hb with hb; subst hb; exact hnf ts hdT
  refine entryD hfr (hl.of_keeps fun b o hb hnf => ⟨o,(other b (nr b o hb hnf)).trans hb,rfl⟩) hf ((other e (Ne.symm hTe)).trans he) hdx
    (fun b o hbo => (other b fun q => by rw [q,hnT] at hbo; cases hbo).trans (hkb b o hbo)) hen hd (Array.getElem?_eq_some_iff.mp h1).1
    fun h' W T' => h h' ⟨W.stays,W.frames,fun b o hb hnf => W.slots b o ((other b (nr b o hb hnf)).trans hb) hnf⟩ T'
theorem flightD {l :List Env} {fl :Value} (hkb :base.StaysIn s.heap) (hl :s.heap.FunFrames base l) (ht :TracedD base s.heap e cls dx fl)
    (h :∀ h',WayD base s.heap h' l → TracedD base h' e cls dx .none → Q () { s with heap :=h' }) :wpAny M A (setFlight (.ref e) none) Q E s :=by
  obtain ⟨oe,vs,T,oT,ts,he,hcls,hd,h1,hnT,hTe,hT,hdT,h3⟩ :=ht
  have hsz3 :3 < ts.size :=(Array.getElem?_eq_some_iff.mp h3).1
  have other :∀ b,b ≠ T → (s.heap.update T (Obj.mapFields (·.setIfInBounds 3 ((none :Option Addr).elim Value.none fun f => rawInt f)))).get? b = s.heap.get? b :=
    fun b hb => Heap.get?_update_other _ _ (Ne.symm hb)
  have nr :∀ b o,s.heap.get? b = some o → (∀ vs,o.data ≠ .fields vs) → b ≠ T :=fun b o hb hnf q => by
    rw [q,hT] at hb; injection hb with hb; subst hb; exact hnf ts hdT
  unfold setFlight
  refine wpAny_bind (wpAny_field he hd h1 ?_)
  rw [if_pos (show (Value.ref T != Value.none) = true from by simp)]
  refine wpAny_setField hT hdT hsz3 (h _ ⟨fun b o hbo => (other b fun q => by rw [q,hnT] at hbo; cases hbo).trans (hkb b o hbo),
    hl.of_keeps fun b o hb hnf => ⟨o,(other b (nr b o hb hnf)).trans hb,rfl⟩,fun b o hb hn => ⟨o.slots,(other b (nr b o hb hn)).trans hb⟩⟩ ?_)
  exact ⟨oe,vs,T,_,_,(other e (Ne.symm hTe)).trans he,hcls,hd,h1,hnT,hTe,Heap.get?_update_self _ hT (Obj.isFreed_of_fields (Obj.data_mapFields hdT _)),Obj.data_mapFields hdT _,by simp [hsz3]⟩
theorem leaveD_first {oe :Obj} {vs :Array Value} (hfr :A.frames = some (env :: outer)) (hl :s.heap.FunFrames base (env :: outer)) (hf :env.frame = some L)
    (he :s.heap.get? e = some oe) (hdx :oe.dict = some dx) (hkb :base.StaysIn s.heap) (hen :base.get? e = none) (hd :oe.data = .fields vs) (h1 :vs[1]? = some .none)
    (h :∀ h',WayD base s.heap h' (env :: outer) → TracedD base h' e oe.cls dx .none → Q () { s with heap :=h' }) :wpAny M A (leaving env (.ref e)) Q E s :=by
  unfold leaving
  refine wpAny_bind (noteD_first hfr hl hf he hdx hkb hen hd h1 fun h' W T => ?_)
  exact flightD W.stays W.frames T fun h'' W' T' => h h'' ⟨W'.stays,W'.frames,W.slots.trans W'.slots⟩ T'
theorem leaveD_next (hfr :A.frames = some (env :: outer)) (hl :s.heap.FunFrames base (env :: outer)) (hf :env.frame = some L)
    (ht :TracedD base s.heap e cls dx .none) (hkb :base.StaysIn s.heap) (hen :base.get? e = none)
    (h :∀ h',WayD base s.heap h' (env :: outer) → TracedD base h' e cls dx .none → Q () { s with heap :=h' }) :wpAny M A (leaving env (.ref e)) Q E s :=by
  unfold leaving
  refine wpAny_bind (noteD_next hfr hl hf ht hkb hen fun h' W T => ?_)
  exact flightD W.stays W.frames T fun h'' W' T' => h h'' ⟨W'.stays,W'.frames,W.slots.trans W'.slots⟩ T'
end
end
end
section
open PySem PySem.W PySem.Calls PySem.Spec PyProof.Rows
section
section
variable {prog :Program} {w :World} {A :Around} {E :Value → Shared → Prop} {h :Heap} {g :Array GenState} {d :Drawn} {t :Nat} {os :OsState}
variable {nm q :Str} {C N :Addr} {bs bm :List Value} {hdct :Bool} {sn :List Str} {sub :List Value} {ab :Bool} {col :Option Bool} {dd :Option Addr} {k0 k1 k2 k3 k5 :Option Value} {B newId initId :String}
noncomputable abbrev excNew (C t :Addr) :Obj :={ cls :=.ref C,data :=.fields #[.ref t,.none,.none,.none,.bool false,.none] }
theorem type_call_init (F :ExcBaseFacts B newId initId bm) {mN :Str → Option Value} {rest :List Value} {fI :Addr} {Q :Fin → Shared → Prop}
    (hC :h.get? C = some (excClassObj nm q C N bs bm hdct sn sub ab col dd k0 k1 k2 k3 k5 newId)) (hn :h.Ns N mN) (hni :mN "__init__" = some (.ref fI))
    (hb :∀ self,Looks (model prog w) h (bindSpecial (.ref fI) self) (.ref fI,[self]))
    (hq :wpAny (model prog w) A (call (.ref fI) (.ref (h.objs.size + 1) :: rest)) (fun r s' => r = .none ∧ Q (.done (.ret (.ref (h.objs.size + 1)))) s') E ⟨(h.push { cls :=.type "tuple",data :=.seq rest.toArray }).push (excNew C h.objs.size),g,d,t,os⟩) (hrest :rest.length ≤ sizeLine :=by size_fits) :
    wpAny (model prog w) A (Builtin.«type.__call__» ⟨.ref C :: rest,[]⟩) Q E ⟨h,g,d,t,os⟩ :=by
  repeat (first | with_reducible refine wpAny_loadPart_at hC ?_ | with_reducible refine wpAny_madeBy_exc hC ?_ | wp_step)
  refine codeAny_call_builtin_code (Code.quiet_builtin _ F.quiet) (wpAny_check_new_sub F hC ?_)
  refine codeAny_exc_new_sub F hC ?_ hrest
  show wpAny _ _ _ _ _ _
  have hC₁ :=Heap.get?_push_of_some { cls :=.ref C,data :=.fields #[.ref h.objs.size,.none,.none,.none,.bool false,.none] }
    (Heap.get?_push_of_some { cls :=.type "tuple",data :=.seq rest.toArray } hC)
  have hn₁ :((h.push { cls :=.type "tuple",data :=.seq rest.toArray }).push { cls :=.ref C,data :=.fields #[.ref h.objs.size,.none,.none,.none,.bool false,.none] }).Ns N mN :=
    let ⟨o,es,ep,e,r⟩ :=hn; ⟨o,es,ep,Heap.get?_push_of_some _ (Heap.get?_push_of_some _ e),r⟩
  have hget :((h.push { cls :=.type "tuple",data :=.seq rest.toArray }).push
      { cls :=.ref C,data :=.fields #[.ref h.objs.size,.none,.none,.none,.bool false,.none] }).get? (h.objs.size + 1) = some
      { cls :=.ref C,data :=.fields #[.ref h.objs.size,.none,.none,.none,.bool false,.none] } :=by heap_get
  have hcC :(Value.ref C :: bm).contains (.ref C) = true :=by simp
  unfold isInstance
  repeat (first | with_reducible refine wpAny_loadPart_at hget ?_ | (with_reducible refine wpAny_isSubtype_exc hC₁ ?_; rw [hcC]) | wp_step)
  show wpAny _ _ (typeLookup (.ref C) _) _ _ _
  refine wpAny_typeLookup_exc hC₁ hn₁ F.mroIs F.init.lookup ?_
  rw [hni]
  dsimp only
  refine wpAny_holding (wpAny_bind (hb _ _ _ _ _ (fun b o e => Heap.get?_push_of_some _ (Heap.get?_push_of_some _ e)) ?_))
  dsimp only
  refine wpAny_bind (wpAny_mono hq (fun r s' hr => ?_) fun _ _ e => ?_)
  · obtain ⟨rfl,hQ⟩ :=hr
    wp_walk
    exact hQ
  · assumption
theorem call_exc_init (F :ExcBaseFacts B newId initId bm) {mN :Str → Option Value} {rest :List Value} {fI :Addr} {Q :Value → Shared → Prop}
    (hC :h.get? C = some (excClassObj nm q C N bs bm hdct sn sub ab col dd k0 k1 k2 k3 k5 newId)) (hn :h.Ns N mN) (hni :mN "__init__" = some (.ref fI))
    (hb :∀ self,Looks (model prog w) h (bindSpecial (.ref fI) self) (.ref fI,[self]))
    (hq :∀ E',wpAny (model prog w) (A.under (.builtin "type.__call__" ⟨.ref C :: rest,[]⟩)) (call (.ref fI) (.ref (h.objs.size + 1) :: rest)) (fun r s' => r = .none ∧ Q (.ref (h.objs.size + 1)) s') E' ⟨(h.push { cls :=.type "tuple",data :=.seq rest.toArray }).push (excNew C h.objs.size),g,d,t,os⟩) (hrest :rest.length ≤ sizeLine :=by size_fits) :
    wpAny (model prog w) A (call (.ref C) rest) Q E ⟨h,g,d,t,os⟩ :=by
  have f1 :=tc_lookup
  have f2 :=tc_bind (.ref C)
  have hT :(⟨h,g,d,t,os⟩ :Shared).TypeIs (.ref C) "type" :=⟨_,hC,rfl⟩
  refine wpAny_call (codeAny_of_tree ?_)
  show wpAny _ _ (callAny (.ref C) _) _ _ _
  repeat (any_goals (first | assumption | with_reducible refine wpAny_loadPart_at hC ?_ | wp_step))
  refine ⟨rfl,?_⟩
  refine codeAny_call_builtin_at (Code.quiet_builtin _ (by decide +kernel)) entry_typeCall (wpAny_check_type_call_sub hC (type_call_init (hrest :=hrest) F hC hn hni hb ?_))
  exact wpAny_mono (hq _) (fun r s' hr => ⟨hr.1,hr.2⟩) fun _ _ e => e
end
end
end
section
open PySem PySem.W PySem.Calls PySem.Spec PyProof.Rows
section
open PyProof.Rows.LCg in
theorem rest_range {prog :Program} {w :World} {A :Around} {h₀ :Heap} {L :Addr} {m :Str → Option Value} {env :Env} {elt :Expr} {x :Str} {scope :Scope} {cl :List (Str × Addr)} {s :Shared}
    {Fin :List Value → List (Addr × Obj) → Prop} {news :List (Addr × Obj)} {a :Int} {n :Nat} (J :Nat → Value → Prop)
    (turn :∀ i t I oI C oC D ys m₂ h tk (E' :Value → Shared → Prop),i < n → NsObj oC m₂ → m₂ x = some (.int (a + (i :Int)) t) → Fr h₀ L h m → News h₀ L h ((I,oI) :: (C,oC) :: (D,lst ys) :: news) →
      wpAny (model prog w) A (eval elt (compEnvC scope cl C env)) (OutL h₀ L m { s with heap :=h,toks :=tk } ((I,oI) :: (C,oC) :: (D,lst ys) :: news) (J i)) E' { s with heap :=h,toks :=tk })
    (fin :∀ ys,Paired J (List.range n) ys → Fin ys news) :CompRest prog w A h₀ L m env elt x scope cl s (fun _ => True) (fun i v => ∃ t,v = .int (a + (i :Int)) t) Fin n 0 [] news :=by
  have go :∀ k i ys,i + k = n → Paired J (List.range i) ys → CompRest prog w A h₀ L m env elt x scope cl s (fun _ => True) (fun i v => ∃ t,v = .int (a + (i :Int)) t) Fin k i ys news :=by
    intro k
    induction k with
    | zero =>
      intro i ys e p
      have e' :i = n :=e
      subst e'
      exact CompRest.zero (fin ys p)
    | succ k ih =>
      intro i ys e p
      refine CompRest.succ ?_
      intro v I oI C oC D m₂ h tk E' hv hC hx F N off ne
      obtain ⟨t,rfl⟩ :=hv
      refine wpAny_mono (turn i t I oI C oC D ys m₂ h tk E' (by omega) hC hx F N) (fun y s' hy => ?_) fun _ _ z => z
      obtain ⟨hJ,h',tk',rfl,F',N'⟩ :=hy
      refine CompEnd.intro F' N' news (fun p hp => hp) off trivial (ih (i + 1) (ys ++ [y]) (by omega) ?_)
      rw [List.range_succ]
      exact Paired.snoc p hJ
  exact go n 0 [] (by omega) (by simpa using Paired.nil)
end
end
section EMA
local macro_rules | `(tactic| intro $xs*) => inz xs.toList
local macro_rules | `(tactic| rintro ⟨$ps,*⟩) => rz ps.getElems.toList
local macro_rules | `(tactic| obtain $p:rcasesPatMed :=$e:term) => oz p e
local macro_rules | `(tactic| k_fold) => `(tactic| skip)
section
section
structure DA where
  d :Nat
  dd :Nat
  gl :Nat
  l :Nat
  k1 :Nat
  k2 :Nat
  k3 :Nat
  k4 :Nat
  k5 :Nat
  k6 :Nat
  k7 :Nat
  t1 :Nat
  t2 :Nat
  t3 :Nat
  t4 :Nat
  gn :Nat
  n :Nat
deriving Inhabited
noncomputable abbrev diskD (P :Params) (a :DA) :List DictEntry :=
  [⟨PyData.keyHash P (Str.ofString "blocks"),.str (Str.ofString "blocks") a.k1,.int 11 a.t1⟩,
   ⟨PyData.keyHash P (Str.ofString "block"),.str (Str.ofString "block") a.k2,.int 128 a.t2⟩,
   ⟨PyData.keyHash P (Str.ofString "record"),.str (Str.ofString "record") a.k3,.int 32 a.t3⟩,
   ⟨PyData.keyHash P (Str.ofString "entries"),.str (Str.ofString "entries") a.k4,.int 8 a.t4⟩,
   ⟨PyData.keyHash P (Str.ofString "is_read_only"),.str (Str.ofString "is_read_only") a.k5,.bool false⟩,
   ⟨PyData.keyHash P (Str.ofString "given"),.str (Str.ofString "given") a.k6,.ref a.gl⟩,
   ⟨PyData.keyHash P (Str.ofString "data"),.str (Str.ofString "data") a.k7,.ref a.l⟩]
structure DM (P :Params) (a :DA) (vs :List Value) (D :List Int) (news :List (Addr × Obj)) :Prop where
  m1 :(a.d,instObj 53 a.dd) ∈ news
  m2 :(a.dd,dictOf (diskD P a) 7) ∈ news
  m3 :(a.gl,listOf [].toArray a.gn) ∈ news
  m4 :(a.l,listOf vs.toArray a.n) ∈ news
  hI :IntsAre vs D
  hl :D.length = 1408
theorem DM.mono {P :Params} {a :DA} {vs :List Value} {D :List Int} {news news' :List (Addr × Obj)} (dm :DM P a vs D news) (hs :∀ p ∈ news,p ∈ news') :DM P a vs D news' :=
  ⟨hs _ dm.m1,hs _ dm.m2,hs _ dm.m3,hs _ dm.m4,dm.hI,dm.hl⟩
noncomputable abbrev AR (dp un :Nat) (fr :Option (List Env)) (gd :Option (List Code)) :Around :={ handled :=none,depth :=dp,frames :=fr,guards :=gd,units :=un }
noncomputable abbrev Lv (dp un k :Nat) :Prop :=dp + k < 900 ∧ un + 16 * k < 9000
noncomputable abbrev IsI (k :Int) (r :Value) (tl :List (Addr × Obj)) :Prop :=tl = [] ∧ ∃ t,r = .int k t
noncomputable abbrev IsB (b :Bool) (r :Value) (tl :List (Addr × Obj)) :Prop :=tl = [] ∧ r = .bool b
noncomputable abbrev IsN (r :Value) (tl :List (Addr × Obj)) :Prop :=tl = [] ∧ r = .none
noncomputable abbrev IsIL (ns :List Int) (r :Value) (tl :List (Addr × Obj)) :Prop :=∃ x ws n,r = .ref x ∧ tl = [(x,listOf ws.toArray n)] ∧ IntsAre ws ns
theorem useIL {M :Model} {A :Around} {E :Value → Shared → Prop} {s :Shared} {g :Heap} {L :Addr} {m :Str → Option Value} {news :List (Addr × Obj)} {t :Sem Value} {Q :Value → Shared → Prop} {ns :List Int} (spec :wpAny M A t (RetG s news (IsIL ns)) (fun _ _ => False) s) (F :Fr g L s.heap m) (N :News g L s.heap news)
    (k :∀ (x :Addr) ws n h' tk,Fr g L h' m → News g L h' ((x,listOf ws.toArray n) :: news) → IntsAre ws ns → (∀ q ∈ news,q.1 ≠ x) → Q (.ref x) { s with heap :=h',toks :=tk }) :wpAny M A t Q E s :=
  useG spec F N fun r tl h' tk hP F' N' lt => by rcases hP with ⟨x,ws,n,e1,e2,hI⟩; subst e1; subst e2; exact k x ws n h' tk F' N' hI (lt _ (List.mem_singleton.mpr rfl))
theorem useI {M :Model} {A :Around} {E :Value → Shared → Prop} {s :Shared} {g :Heap} {L :Addr} {m :Str → Option Value} {news :List (Addr × Obj)} {t :Sem Value} {Q :Value → Shared → Prop} {i :Int} (spec :wpAny M A t (RetG s news (IsI i)) (fun _ _ => False) s) (F :Fr g L s.heap m) (N :News g L s.heap news)
    (k :∀ u h' tk,Fr g L h' m → News g L h' (news) → Q (.int i u) { s with heap :=h',toks :=tk }) :wpAny M A t Q E s :=
  useG spec F N fun r tl h' tk hP F' N' lt => by rcases hP with ⟨e1,u,e2⟩; subst e1; subst e2; exact k u h' tk F' N'
theorem useV {M :Model} {A :Around} {E :Value → Shared → Prop} {s :Shared} {g :Heap} {L :Addr} {m :Str → Option Value} {news :List (Addr × Obj)} {t :Sem Value} {Q :Value → Shared → Prop} {v :Value} (spec :wpAny M A t (RetG s news (fun r tl => tl = [] ∧ r = v)) (fun _ _ => False) s) (F :Fr g L s.heap m) (N :News g L s.heap news)
    (k :∀ h' tk,Fr g L h' m → News g L h' (news) → Q (v) { s with heap :=h',toks :=tk }) :wpAny M A t Q E s :=
  useG spec F N fun r tl h' tk hP F' N' lt => by rcases hP with ⟨e1,e2⟩; subst e1; subst e2; exact k h' tk F' N'
theorem lv_use {dp un k j :Nat} (h :Lv dp un k) (hk :j + 1 ≤ k) :Lv (dp + 1) (un + 3) j :=⟨by have :=h.1; omega,by have :=h.2; omega⟩
theorem lv_room {dp un k :Nat} (h :Lv dp un k) :dp < recursionLimit :=by have :=h.1; show dp < 1000; omega
theorem fill0 :Mine.hd.heap_39 = Mine.hd.heap_39 ∧ rw_tg0048_01 = rw_tg0048_01 :=by
  k_fill
  exact ⟨rfl,rfl⟩
local macro_rules | `(tactic| kst_in) => `(tactic| k_extra "kst_in1")
theorem kw2 :True :=by
  (k_with "kst_in1" => ((intros q9 hq9; first | exact Nat.ne_of_lt ((by assumption :∀ p ∈ _,p.1 < _) q9 hq9) | exact off1_ne (by assumption) q9 hq9)))
  trivial
variable {w :World} {dp un :Nat} {fr :Option (List Env)} {gd :Option (List Code)} {s :Shared} {mg mb :Str → Option Value} {G :Heap} {news :List (Addr × Obj)} {a :DA} {vs :List Value} {D :List Int}
theorem row_e3 {i :Int} (k :Nat) (i0 :0 ≤ i) :(i * 32 + (k :Int)).toNat = 32 * i.toNat + k :=by
  obtain ⟨x,rfl⟩ :_ :=Int.eq_ofNat_of_zero_le i0
  show ((x * 32 + k :Nat) :Int).toNat = 32 * x + k
  rw [Int.toNat_natCast,Nat.mul_comm x]
theorem row_e1 {i :Int} (i0 :0 ≤ i) :(i * 32).toNat = 32 * i.toNat :=by
  have h :=row_e3 0 i0
  rwa [Int.natCast_zero,Int.add_zero,Nat.add_zero] at h
theorem row_o {i :Int} (i8 :i < 8) :32 * i.toNat + 32 ≤ 1408 :=
  Nat.le_trans (Nat.add_le_add_right (Nat.mul_le_mul_left 32 (Int.toNat_le.mpr (Int.lt_add_one_iff.mp i8) :i.toNat ≤ 7)) 32) (by decide)
theorem row_e2 {i :Int} {n :Nat} (i0 :0 ≤ i) (i8 :i < 8) (hl :n = 1408) :min ((i + 1) * 32).toNat n - (i * 32).toNat = 32 :=by
  subst hl
  rw [show (i + 1) * 32 = i * 32 + ((32 :Nat) :Int) from Int.add_mul i 1 32,row_e3 32 i0,row_e1 i0,Nat.min_eq_left (row_o i8)]
  exact Nat.add_sub_cancel_left _ _
noncomputable abbrev raw_entry_ok_Q (w :World) (dp un :Nat) (fr :Option (List Env)) (gd :Option (List Code)) (s :Shared) (mg mb :Str → Option Value) (G :Heap) (news :List (Addr × Obj)) (a :DA) (vs :List Value) (D :List Int) (i :Int) (t :Tok) :Prop :=∀ (gh :GH w mg mb G) (st :Stay G s.heap) (hn :HN G s.heap news) (lv :Lv dp un 2) (dm :DM w.params a vs D news) (hi :0 ≤ i) (hi8 :i < 8),wpAny (model rw_tg0048_01.row.prog w) (AR dp un fr gd) (call (.ref 141) [.ref a.d,.int i t]) (RetG s news (IsIL ((D.drop (32 * i.toNat)).take 32))) (fun _ _ => False) s
theorem raw_entry_ok_L :∀ w dp un fr gd s mg mb G news a vs D i t,raw_entry_ok_Q w dp un fr gd s mg mb G news a vs D i t :=by
  intro w dp un fr gd s mg mb G news a vs D i t
  delta raw_entry_ok_Q
  intro gh st hn lv dm hi hi8
  obtain ⟨m1,m2,m3,m4,hI,hl⟩ :=dm
  cell_enter
  k_steps
  ktr_step
  have e1 :=row_e1 hi
  have e2 :=row_e2 hi hi8 hl
  rw [← e1,← e2]
  assumption
theorem raw_entry_ok {i :Int} {t :Tok} :raw_entry_ok_Q w dp un fr gd s mg mb G news a vs D i t :=raw_entry_ok_L w dp un fr gd s mg mb G news a vs D i t
noncomputable abbrev map_slots_ok_Q (w :World) (dp un :Nat) (fr :Option (List Env)) (gd :Option (List Code)) (s :Shared) (mg mb :Str → Option Value) (G :Heap) (news :List (Addr × Obj)) (a :DA) (vs :List Value) (D :List Int) :Prop :=∀ (gh :GH w mg mb G) (st :Stay G s.heap) (hn :HN G s.heap news) (lv :Lv dp un 1) (dm :DM w.params a vs D news),wpAny (model rw_tg0048_01.row.prog w) (AR dp un fr gd) (call (.ref 85) [.ref a.d]) (RetG s news (IsI 16)) (fun _ _ => False) s
theorem map_slots_ok_L :∀ w dp un fr gd s mg mb G news a vs D,map_slots_ok_Q w dp un fr gd s mg mb G news a vs D :=by
  intro w dp un fr gd s mg mb G news a vs D
  delta map_slots_ok_Q
  intro gh st hn lv dm
  obtain ⟨m1,m2,m3,m4,hI,hl⟩ :=dm
  cell_enter
  k_steps
  tb_start
  exact ⟨rfl,_,rfl⟩
theorem map_slots_ok :map_slots_ok_Q w dp un fr gd s mg mb G news a vs D :=map_slots_ok_L w dp un fr gd s mg mb G news a vs D
noncomputable abbrev records_of_block_ok_Q (w :World) (dp un :Nat) (fr :Option (List Env)) (gd :Option (List Code)) (s :Shared) (mg mb :Str → Option Value) (G :Heap) (news :List (Addr × Obj)) (a :DA) (vs :List Value) (D :List Int) :Prop :=∀ (gh :GH w mg mb G) (st :Stay G s.heap) (hn :HN G s.heap news) (lv :Lv dp un 1) (dm :DM w.params a vs D news),wpAny (model rw_tg0048_01.row.prog w) (AR dp un fr gd) (call (.ref 92) [.ref a.d]) (RetG s news (IsI 4)) (fun _ _ => False) s
theorem records_of_block_ok_L :∀ w dp un fr gd s mg mb G news a vs D,records_of_block_ok_Q w dp un fr gd s mg mb G news a vs D :=by
  intro w dp un fr gd s mg mb G news a vs D
  delta records_of_block_ok_Q
  intro gh st hn lv dm
  obtain ⟨m1,m2,m3,m4,hI,hl⟩ :=dm
  cell_enter
  k_steps
  tb_start
  exact ⟨rfl,_,rfl⟩
theorem records_of_block_ok :records_of_block_ok_Q w dp un fr gd s mg mb G news a vs D :=records_of_block_ok_L w dp un fr gd s mg mb G news a vs D
theorem kw3 :True :=by
  (k_with "q0" => ((refine useI (map_slots_ok (by assumption) (by ktr_unf) (by ktr_units) (by ktr_room) (by tb_rel)) (by assumption) (by assumption) ?_; intro t9 h9 tk9 F9 N9; (try dsimp only); (try k_fold))))
  (k_with "mcall ref" => (((with_reducible show wpAny _ _ (call (.ref 85) _) _ _ _); first | k_extra "q0" | k_dflt (k_extra "q0"))))
  (k_with "q1" => ((refine useI (records_of_block_ok (by assumption) (by ktr_unf) (by ktr_units) (by ktr_room) (by tb_rel)) (by assumption) (by assumption) ?_; intro t9 h9 tk9 F9 N9; (try dsimp only); (try k_fold))))
  (k_with "mcall ref" => (((with_reducible show wpAny _ _ (call (.ref 92) _) _ _ _); first | k_extra "q1" | k_dflt (k_extra "q1"))))
  trivial
noncomputable abbrev records_of_extent_ok_Q (w :World) (dp un :Nat) (fr :Option (List Env)) (gd :Option (List Code)) (s :Shared) (mg mb :Str → Option Value) (G :Heap) (news :List (Addr × Obj)) (a :DA) (vs :List Value) (D :List Int) :Prop :=∀ (gh :GH w mg mb G) (st :Stay G s.heap) (hn :HN G s.heap news) (lv :Lv dp un 2) (dm :DM w.params a vs D news),wpAny (model rw_tg0048_01.row.prog w) (AR dp un fr gd) (call (.ref 99) [.ref a.d]) (RetG s news (IsI 64)) (fun _ _ => False) s
theorem records_of_extent_ok_L :∀ w dp un fr gd s mg mb G news a vs D,records_of_extent_ok_Q w dp un fr gd s mg mb G news a vs D :=by
  intro w dp un fr gd s mg mb G news a vs D
  delta records_of_extent_ok_Q
  intro gh st hn lv dm
  have dm0 :=dm
  obtain ⟨m1,m2,m3,m4,hI,hl⟩ :=dm
  cell_enter
  k_steps
  tb_start
  exact ⟨rfl,_,rfl⟩
theorem records_of_extent_ok :records_of_extent_ok_Q w dp un fr gd s mg mb G news a vs D :=records_of_extent_ok_L w dp un fr gd s mg mb G news a vs D
end
theorem kw4 :True :=by
  (k_with "mcall ref" => (refine toStop ?_))
  trivial
end
variable {w :World} {dp un :Nat} {fr :Option (List Env)} {gd :Option (List Code)} {s :Shared} {mg mb :Str → Option Value} {G :Heap} {news :List (Addr × Obj)} {a :DA} {vs :List Value} {D :List Int}
section
section
noncomputable def dropN (x :Addr) (l :List (Addr × Obj)) :List (Addr × Obj) :=l.filter fun p => decide (p.1 ≠ x)
theorem mem_dropN {x :Addr} {l :List (Addr × Obj)} {p :Addr × Obj} :p ∈ dropN x l ↔ p ∈ l ∧ p.1 ≠ x :=by
  unfold dropN
  rw [List.mem_filter]
  simp
theorem dropN_ne {x :Addr} {l :List (Addr × Obj)} :∀ p ∈ dropN x l,p.1 ≠ x :=fun p hp => (mem_dropN.mp hp).2
theorem dropN_lt {x b :Addr} {l :List (Addr × Obj)} (h :∀ p ∈ l,p.1 < b) :∀ p ∈ dropN x l,p.1 < b :=fun p hp => h p (mem_dropN.mp hp).1
theorem News.first {g h :Heap} {L x :Addr} {o :Obj} {l :List (Addr × Obj)} (N :News g L h l) (hm :(x,o) ∈ l) :News g L h ((x,o) :: dropN x l) :=fun p hp => by
  rcases List.mem_cons.mp hp with rfl | hp
  · exact N _ hm
  · exact N _ (mem_dropN.mp hp).1
theorem News.sub {g h :Heap} {L :Addr} {l l' :List (Addr × Obj)} (N :News g L h l) (hs :∀ p ∈ l',p ∈ l) :News g L h l' :=fun p hp => N p (hs p hp)
theorem News.ne {g h :Heap} {L x y :Addr} {o o' :Obj} {l :List (Addr × Obj)} (N :News g L h l) (h1 :(x,o) ∈ l) (h2 :(y,o') ∈ l) (hne :o ≠ o') :x ≠ y :=fun e => by
  subst e
  have :=(N _ h1).1.symm.trans (N _ h2).1
  exact hne (Option.some.inj this)
theorem list_ne {u v :List Value} {m n :Nat} (h :u.length ≠ v.length) :listOf u.toArray m ≠ listOf v.toArray n :=fun e => by
  have e' :=congrArg Obj.data e
  have :Data.seq u.toArray m = Data.seq v.toArray n :=e'
  injection this with h1 _
  have :=congrArg Array.size h1
  simp at this
  exact h this
noncomputable def MutG (s :Shared) (news :List (Addr × Obj)) (l :Addr) (P :Value → Obj → List (Addr × Obj) → Prop) (r :Value) (s' :Shared) :Prop :=
  ∃ h' tk tl o,s' = { s with heap :=h',toks :=tk } ∧ (∀ b ob,s.heap.get? b = some ob → b ≠ l → h'.get? b = some ob) ∧ h'.get? l = some o ∧
    (∀ p ∈ tl,h'.get? p.1 = some p.2 ∧ s.heap.get? p.1 = none ∧ ∀ q ∈ news,q.1 ≠ p.1) ∧ P r o tl
theorem mutG {G g h' :Heap} {L l :Addr} {o :Obj} {m :Str → Option Value} {news news' :List (Addr × Obj)} {s :Shared} {P :Value → Obj → List (Addr × Obj) → Prop} {r :Value} {tk :Nat} (tl :List (Addr × Obj))
    (F :Fr g L h' m) (N :News g L h' news') (kp :∀ b o,s.heap.get? b = some o → b ∉ news.map (·.1) → g.get? b = some o) (hn :HN G s.heap news)
    (hs :∀ p ∈ news,p.1 ≠ l → p ∈ news') (hl :(l,o) ∈ news') (ht :∀ p ∈ tl,p ∈ news') (hlt :∀ p ∈ tl,∀ q ∈ news,q.1 ≠ p.1) (hP :P r o tl) :
    MutG s news l P r { s with heap :=h',toks :=tk } :=
  ⟨h',tk,tl,o,rfl,fun b ob e nb => by
    by_cases hb :b ∈ news.map (·.1)
    · obtain ⟨p,hp,rfl⟩ :_ :=List.mem_map.mp hb
      rw [(hn p hp).1] at e; cases e
      exact (N p (hs p hp nb)).1
    · exact F.keep _ _ (kp _ _ e hb),(N _ hl).1,fun p hp => ⟨(N p (ht p hp)).1,none_of kp (N p (ht p hp)).2.2 (hlt p hp),hlt p hp⟩,hP⟩
theorem useM {M :Model} {A :Around} {E :Value → Shared → Prop} {s :Shared} {g :Heap} {L l :Addr} {o₀ :Obj} {m :Str → Option Value} {news :List (Addr × Obj)} {t :Sem Value} {P :Value → Obj → List (Addr × Obj) → Prop} {Q :Value → Shared → Prop}
    (spec :wpAny M A t (MutG s news l P) (fun _ _ => False) s) (F :Fr g L s.heap m) (N :News g L s.heap news) (hm :(l,o₀) ∈ news)
    (k :∀ r tl o h' tk,P r o tl → Fr g L h' m → News g L h' (tl ++ (l,o) :: dropN l news) → (∀ p ∈ tl,∀ q ∈ news,q.1 ≠ p.1) → Q r { s with heap :=h',toks :=tk }) :wpAny M A t Q E s :=by
  refine wpAny_mono spec (fun r s' hr => ?_) fun _ _ x => x.elim
  obtain ⟨h',tk,tl,o,rfl,st,hl,ht,hP⟩ :_ :=hr
  obtain ⟨oL,es,ep,hL,r1,r2,r3⟩ :_ :=F.ns
  have nl :=N _ hm
  have F' :Fr g L h' m :=⟨⟨oL,es,ep,st _ _ hL (Ne.symm nl.2.1),r1,r2,r3⟩,fun b o e => st _ _ (F.keep b o e) (fun q => by have :=nl.2.2; rw [← q,e] at this; cases this),F.above⟩
  refine k r tl o h' tk hP F' (fun p hp => ?_) (fun p hp => (ht p hp).2.2)
  rcases List.mem_append.mp hp with hp | hp
  · refine ⟨(ht p hp).1,fun e => ?_,?_⟩
    · have :=(ht p hp).2.1; rw [e,hL] at this; cases this
    · cases q :g.get? p.1 with
      | none => rfl
      | some o => have :=F.keep _ _ q; rw [(ht p hp).2.1] at this; cases this
  · rcases List.mem_cons.mp hp with rfl | hp
    · exact ⟨hl,nl.2⟩
    · have :=mem_dropN.mp hp
      exact ⟨st _ _ (N p this.1).1 this.2,(N p this.1).2⟩
theorem set_ints {prog :Program} {w :World} {A :Around} {E :Value → Shared → Prop} {s :Shared} {h₀ :Heap} {L D :Addr} {m :Str → Option Value} {news news' :List (Addr × Obj)} {vs :List Value} {xs :List Int} {n :Nat} {k x :Int} {t u :Tok} {Q :Unit → Shared → Prop}
    (F :Fr h₀ L s.heap m) (N :News h₀ L s.heap news) (U :Upd D (listOf vs.toArray n) (listOf (vs.set k.toNat (.int x u)).toArray n) news news') (hI :IntsAre vs xs) (h0 :0 ≤ k) (h1 :k < xs.length) (hfit :k < 2 ^ 63)
    (h :∀ h',Fr h₀ L h' m → News h₀ L h' news' → Q () { s with heap :=h' }) :
    wpAny (model prog w) A (setItem (.ref D) (.int k t) (.int x u)) Q E s :=by
  obtain ⟨pre,post,rfl,rfl,a,b'⟩ :_ :=U.split
  have z :=N (D,listOf vs.toArray n) (List.mem_append.mpr (.inr (.head _)))
  have hl :vs.length = xs.length :=hI.length
  have hs :vs.toArray.size = xs.length :=by rw [List.size_toArray]; exact hl
  refine ki_setAt z.1 h0 hfit (by omega) (h _ (F.change (Heap.SameBut.update ..) z.2.1 z.2.2) (ki_turn _ N a b' ?_ ?_))
  · show vs.toArray.setIfInBounds k.toNat (.int x u) = (vs.set k.toNat (.int x u)).toArray
    apply Array.toList_inj.mp
    simp
  · simp
theorem ints_set {x :Int} {u :Tok} :∀ {vs :List Value} {xs :List Int},IntsAre vs xs → ∀ k :Nat,IntsAre (vs.set k (.int x u)) (xs.set k x)
  | _,_,.nil,_ => .nil
  | _,_,.cons n t h,0 => .cons x u h
  | _,_,.cons n t h,k + 1 => .cons n t (ints_set h k)
section
variable {prog :Program} {w :World} {A :Around} {E :Value → Shared → Prop} {s :Shared} {env :Env} {h₀ :Heap} {target :Expr} {body :List Stmt} {Q :Flow → Shared → Prop}
theorem AllObj_mono :∀ {ws :List (Addr × String)} {k k' :List (Addr × Obj) → Prop},(∀ its,k its → k' its) → AllObj ws k → AllObj ws k'
  | [],_,_,h,x => h _ x
  | _ :: _,_,_,h,x => fun o e => AllObj_mono (fun its => h _) (x o e)
noncomputable def TurnEnd (h₀ :Heap) (L :Addr) (s₁ :Shared) (its :List (Addr × Obj)) (K :(Str → Option Value) → Prop) (J :List (Addr × Obj) → Prop) (Q :Flow → Shared → Prop) (f :Flow) (s₂ :Shared) :Prop :=
  match f with
  | .ret v => Q (.ret v) s₂
  | .brk => Q .next s₂
  | _ => ∃ h' tk m' nw,s₂ = { s₁ with heap :=h',toks :=tk } ∧ Fr h₀ L h' m' ∧ News h₀ L h' (its ++ nw) ∧ (∀ p ∈ nw,∀ q ∈ its,p.1 ≠ q.1) ∧ K m' ∧ J nw
theorem turnEnd {L :Addr} {s₁ :Shared} {its all :List (Addr × Obj)} {K :(Str → Option Value) → Prop} {J :List (Addr × Obj) → Prop} {h' :Heap} {tk :Nat} {m' :Str → Option Value} (nw :List (Addr × Obj))
    (F :Fr h₀ L h' m') (N :News h₀ L h' all) (hs :∀ p ∈ its,p ∈ all) (hs' :∀ p ∈ nw,p ∈ all) (ne :∀ p ∈ nw,∀ q ∈ its,p.1 ≠ q.1) (hK :K m') (hJ :J nw) :TurnEnd h₀ L s₁ its K J Q .next { s₁ with heap :=h',toks :=tk } :=
  ⟨h',tk,m',nw,rfl,F,fun p hp => (List.mem_append.mp hp).elim (fun z => N p (hs p z)) fun z => N p (hs' p z),ne,hK,hJ⟩
theorem turnEnd2 {L :Addr} {s₁ :Shared} {its :List (Addr × Obj)} {K :(Str → Option Value) → Prop} {J :List (Addr × Obj) → Prop} {h' :Heap} {tk :Nat} {m' :Str → Option Value} (nw :List (Addr × Obj))
    (F :Fr h₀ L h' m') (N :News h₀ L h' (its ++ nw)) (ne :∀ p ∈ nw,∀ q ∈ its,p.1 ≠ q.1) (hK :K m') (hJ :J nw) :TurnEnd h₀ L s₁ its K J Q .next { s₁ with heap :=h',toks :=tk } :=
  ⟨h',tk,m',nw,rfl,F,N,ne,hK,hJ⟩
theorem off_two {I :Addr} {o1 o2 :Obj} {nw :List (Addr × Obj)} (h :∀ p ∈ nw,p.1 < I) :∀ p ∈ nw,∀ q ∈ ((I + 1,o1) :: (I,o2) :: [] :List (Addr × Obj)),p.1 ≠ q.1 :=fun p hp q hq => by
  rcases List.mem_cons.mp hq with rfl | hq
  · exact Nat.ne_of_lt (Nat.lt_succ_of_lt (h p hp))
  · rw [List.mem_singleton.mp hq]; exact Nat.ne_of_lt (h p hp)
theorem off_one {I :Addr} {o2 :Obj} {nw :List (Addr × Obj)} (h :∀ p ∈ nw,p.1 < I) :∀ p ∈ nw,∀ q ∈ ((I,o2) :: [] :List (Addr × Obj)),p.1 ≠ q.1 :=fun p hp q hq => by
  rw [List.mem_singleton.mp hq]; exact Nat.ne_of_lt (h p hp)
theorem lt_same {x I :Addr} {o o' :Obj} {R :List (Addr × Obj)} (h :∀ p ∈ (x,o) :: R,p.1 < I) :∀ p ∈ (x,o') :: R,p.1 < I :=fun p hp => by
  rcases List.mem_cons.mp hp with rfl | hp
  · exact lt_head h
  · exact h p (List.mem_cons_of_mem _ hp)
theorem items_inv {ws :List (Addr × String)} {keep :List (Addr × Obj)} (xs :List Itm) (K :(Str → Option Value) → Prop) (J :Nat → List (Addr × Obj) → Prop)
    (hk :∀ i nw,J i nw → SubL keep nw)
    (step :∀ i a m₁ nw v h tk,xs[i]? = some a → K m₁ → J i nw → a.Is v h → Fr h₀ env.locals h m₁ → AllObj ws (fun its => News h₀ env.locals h (its ++ nw) →
      wpAny (model prog w) A (assign target env v) (fun _ s₂ => wpAny (model prog w) A (execs body env) (TurnEnd h₀ env.locals { s with heap :=h,toks :=tk } its K (J (i + 1)) Q) E s₂) E { s with heap :=h,toks :=tk }))
    (fin :∀ m₁ nw h tk,K m₁ → J xs.length nw → Fr h₀ env.locals h m₁ → News h₀ env.locals h nw → Q .next { s with heap :=h,toks :=tk })
    {m :Str → Option Value} {news :List (Addr × Obj)} (hK :K m) (h0 :J 0 news) :ItemsRest prog w A E h₀ env target body Q s ws keep xs m news :=by
  have go :∀ k i m nw,i + k = xs.length → K m → J i nw → ItemsRest prog w A E h₀ env target body Q s ws keep (xs.drop i) m nw :=by
    intros k
    induction k with
    | zero =>
      intros i m nw e hK hJ
      have e' :i = xs.length :=e
      subst e'
      rw [List.drop_length]
      exact fun h tk F N => fin m nw h tk hK hJ F N
    | succ k ih =>
      intros i m nw e hK hJ
      have hlt :i < xs.length :=by omega
      rw [List.drop_eq_getElem_cons hlt]
      intros v h tk ha F
      refine AllObj_mono (fun its x N => ?_) (step i _ m nw v h tk (List.getElem?_eq_getElem hlt) hK hJ ha F)
      refine wpAny_mono (x N) (fun _ s₂ y => wpAny_mono y (fun f s₃ z => ?_) fun _ _ e => e) fun _ _ e => e
      have fin' :∀ s₃,(∃ h' tk' m' nw',s₃ = { ({ s with heap :=h,toks :=tk } :Shared) with heap :=h',toks :=tk' } ∧ Fr h₀ env.locals h' m' ∧ News h₀ env.locals h' (its ++ nw') ∧ (∀ p ∈ nw',∀ q ∈ its,p.1 ≠ q.1) ∧ K m' ∧ J (i + 1) nw') →
          UnrEndW h₀ env.locals { s with heap :=h,toks :=tk } its (fun m' n' => SubL keep n' ∧ ItemsRest prog w A E h₀ env target body Q s ws keep (xs.drop (i + 1)) m' n') s₃ :=by
        rintro s₃ ⟨h',tk',m',nw',e1,F',N',ne,hK',hJ'⟩
        exact ⟨h',tk',m',nw',e1,F',N',ne,hk _ _ hJ',ih (i + 1) m' nw' (by omega) hK' hJ'⟩
      cases f with
      | ret v => exact z
      | brk => exact z
      | next => exact fin' _ z
      | cont => exact fin' _ z
  have :=go xs.length 0 m news (by omega) hK h0
  rwa [List.drop_zero] at this
noncomputable def But2 (m₀ :Str → Option Value) (x1 x2 :Str) (m :Str → Option Value) :Prop :=∃ v1 v2,m = fun z => if z = x2 then v2 else if z = x1 then v1 else m₀ z
theorem but2_start {m₀ :Str → Option Value} {x1 x2 :Str} :But2 m₀ x1 x2 m₀ :=⟨m₀ x1,m₀ x2,funext fun z => by
  by_cases h2 :z = x2
  · subst h2; rw [if_pos rfl]
  · rw [if_neg h2]
    by_cases h1 :z = x1
    · subst h1; rw [if_pos rfl]
    · rw [if_neg h1]⟩
theorem but2_again {m₀ :Str → Option Value} {x1 x2 :Str} {a b c d :Option Value} :But2 m₀ x1 x2 (fun z => if z = x2 then b else if z = x1 then a else if z = x2 then d else if z = x1 then c else m₀ z) :=⟨a,b,funext fun z => by
  by_cases h2 :z = x2
  · simp only [if_pos h2]
  · by_cases h1 :z = x1
    · simp only [if_neg h2,if_pos h1]
    · simp only [if_neg h2,if_neg h1]⟩
noncomputable def But1 (m₀ :Str → Option Value) (x1 :Str) (m :Str → Option Value) :Prop :=∃ v1,m = fun z => if z = x1 then v1 else m₀ z
theorem but1_start {m₀ :Str → Option Value} {x1 :Str} :But1 m₀ x1 m₀ :=⟨m₀ x1,funext fun z => by
    by_cases h1 :z = x1
    · subst h1; rw [if_pos rfl]
    · rw [if_neg h1]⟩
theorem but1_again {m₀ :Str → Option Value} {x1 :Str} {a c :Option Value} :But1 m₀ x1 (fun z => if z = x1 then a else if z = x1 then c else m₀ z) :=⟨a,funext fun z => by
    by_cases h1 :z = x1
    · rw [if_pos h1,if_pos h1]
    · rw [if_neg h1,if_neg h1,if_neg h1]⟩
theorem enum_ints {x1 x2 :Str} {p1 p2 :Pos} {k :Nat} {pos :Pos} {l :Addr} {vs :List Value} {os :List Int} {n :Nat} {m₀ :Str → Option Value} {news :List (Addr × Obj)}
    (J :Nat → List (Addr × Obj) → Prop) (hh :A.handled = none) (F :Fr h₀ env.locals s.heap m₀) (N :News h₀ env.locals s.heap news) (hm :(l,listOf vs.toArray n) ∈ news) (hI :IntsAre vs os)
    (hk :∀ i nw,J i nw → (l,listOf vs.toArray n) ∈ nw)
    (step :∀ I i x t t' T nw h tk v1 v2 o1 o2,(∀ p ∈ news,p.1 < I) → i < os.length → os[i]? = some x → J i nw → IsTup h T #[.int (i :Nat) t,.int x t'] → Fr h₀ env.locals h (fun z => if z = x2 then v2 else if z = x1 then v1 else m₀ z) → News h₀ env.locals h ((I + 1,o1) :: (I,o2) :: nw) →
      wpAny (model prog w) A (assign (.Tuple [.Name x1 p1,.Name x2 p2] k pos) env (.ref T)) (fun _ s₂ => wpAny (model prog w) A (execs body env) (TurnEnd h₀ env.locals { s with heap :=h,toks :=tk } ((I + 1,o1) :: (I,o2) :: []) (But2 m₀ x1 x2) (J (i + 1)) Q) E s₂) E { s with heap :=h,toks :=tk })
    (h0 :J 0 news)
    (fin :∀ nw h tk v1 v2,J os.length nw → Fr h₀ env.locals h (fun z => if z = x2 then v2 else if z = x1 then v1 else m₀ z) → News h₀ env.locals h nw → Q .next { s with heap :=h,toks :=tk }) :
    wpAny (model prog w) A (call (.type "enumerate") [.ref l]) (fun xv s₁ => wpAny (model prog w) A (pyIter xv) (fun it s₂ => TurnsAt prog w A h₀ env (.Tuple [.Name x1 p1,.Name x2 p2] k pos) body Q E it s₂) E s₁) E s :=by
  refine ktu_enum hh F N hm rfl rfl rfl fun I lt => ?_
  have hlen :(enumItems 0 vs).length = os.length :=by rw [enumItems_length,hI.length]
  refine items_inv (enumItems 0 vs) (But2 m₀ x1 x2) J ?_ ?_ ?_ but2_start h0
  · exact fun i nw hJ => And.intro (hk i nw hJ) trivial
  · rintro i a m₁ nw v h tk ha ⟨v1,v2,rfl⟩ hJ hv F' o1 e1 o2 e2 N'
    have hlt :i < os.length :=by
      rw [← hlen]
      exact (List.getElem?_eq_some_iff.mp ha).1
    obtain ⟨t',ht⟩ :_ :=hI.get i os[i] (List.getElem?_eq_getElem hlt)
    have ha' :=enumItems_get vs 0 i ht
    rw [ha] at ha'
    have ha' :=Option.some.inj ha'
    subst ha'
    obtain ⟨T,t,rfl,hT⟩ :_ :=hv
    rw [Nat.zero_add] at hT
    exact step I i os[i] t t' T nw h tk v1 v2 o1 o2 lt hlt (List.getElem?_eq_getElem hlt) hJ hT F' N'
  · rintro m₁ nw h tk ⟨v1,v2,rfl⟩ hJ F' N'
    rw [hlen] at hJ
    exact fin nw h tk v1 v2 hJ F' N'
end
end
end
section
section
theorem dict_list' {es :List DictEntry} {k :Nat} {u :Array Value} {n :Nat} :dictOf es k ≠ listOf u n :=fun e => absurd (Value.type.inj (congrArg Obj.cls e)) (by decide)
theorem inst_list {c d :Nat} {u :Array Value} {n :Nat} :instObj c d ≠ listOf u n :=fun e => by cases e
theorem DM.after {P :Params} {a :DA} {vs vs' :List Value} {D D' :List Int} {news news' :List (Addr × Obj)} {g h :Heap} {L :Addr} (dm :DM P a vs D news) (N :News g L h news) (hI :IntsAre vs' D') (hl :D'.length = 1408)
    (hs :∀ p ∈ (a.l,listOf vs'.toArray a.n) :: dropN a.l news,p ∈ news') :DM P a vs' D' news' where
  m1 :=hs _ (List.mem_cons_of_mem _ (mem_dropN.mpr ⟨dm.m1,News.ne N dm.m1 dm.m4 inst_list⟩))
  m2 :=hs _ (List.mem_cons_of_mem _ (mem_dropN.mpr ⟨dm.m2,News.ne N dm.m2 dm.m4 dict_list'⟩))
  m3 :=hs _ (List.mem_cons_of_mem _ (mem_dropN.mpr ⟨dm.m3,News.ne N dm.m3 dm.m4 (list_ne (by have :=dm.hI.length; have :=dm.hl; simp; omega))⟩))
  m4 :=hs _ List.mem_cons_self
  hI :=hI
  hl :=hl
theorem set_first {prog :Program} {w :World} {A :Around} {E :Value → Shared → Prop} {s :Shared} {h₀ :Heap} {L D :Addr} {m :Str → Option Value} {news :List (Addr × Obj)} {vs :List Value} {xs :List Int} {n :Nat} {k x :Int} {t u :Tok} {Q :Unit → Shared → Prop}
    (F :Fr h₀ L s.heap m) (N :News h₀ L s.heap news) (hm :(D,listOf vs.toArray n) ∈ news) (hI :IntsAre vs xs) (h0 :0 ≤ k) (h1 :k < xs.length) (hfit :k < 2 ^ 63)
    (h :∀ h',Fr h₀ L h' m → News h₀ L h' ((D,listOf (vs.set k.toNat (.int x u)).toArray n) :: dropN D news) → IntsAre (vs.set k.toNat (.int x u)) (xs.set k.toNat x) → Q () { s with heap :=h' }) :
    wpAny (model prog w) A (setItem (.ref D) (.int k t) (.int x u)) Q E s :=
  set_ints F (News.first N hm) (Upd.head dropN_ne) hI h0 h1 hfit fun h' F' N' => h h' F' N' (ints_set hI _)
noncomputable def Lays (n :Nat) (D :List Int) (r :Value) (o :Obj) (tl :List (Addr × Obj)) :Prop :=r = .none ∧ tl = [] ∧ ∃ vs' :List Value,o = listOf vs'.toArray n ∧ IntsAre vs' D
theorem useL {M :Model} {A :Around} {E :Value → Shared → Prop} {s :Shared} {g :Heap} {L l :Addr} {o₀ :Obj} {m :Str → Option Value} {news :List (Addr × Obj)} {t :Sem Value} {Q :Value → Shared → Prop} {n :Nat} {D :List Int} (spec :wpAny M A t (MutG s news l (Lays n D)) (fun _ _ => False) s) (F :Fr g L s.heap m) (N :News g L s.heap news) (hm :(l,o₀) ∈ news)
    (k :∀ vs' h' tk,Fr g L h' m → News g L h' ((l,listOf vs'.toArray n) :: dropN l news) → IntsAre vs' D → Q (.none) { s with heap :=h',toks :=tk }) :wpAny M A t Q E s :=
  useM spec F N hm fun r tl o h' tk hP F' N' lt => by rcases hP with ⟨e1,e2,vs',e3,hI⟩; subst e1; subst e2; subst e3; exact k vs' h' tk F' N' hI
end
end
section
section
structure Wait (p :Prop) :Prop where
  h :p
section
variable {prog :Program} {w :World} {A :Around} {E :Value → Shared → Prop} {s :Shared} {env :Env} {h₀ :Heap} {x :Str} {body :List Stmt} {Q :Flow → Shared → Prop}
theorem range_inv {I :Addr} {n :Nat} {a :Int} (K :(Str → Option Value) → Prop) (J :Nat → List (Addr × Obj) → Prop)
    (step :∀ i m₁ nw t h tk it,i < n → K m₁ → J i nw → Fr h₀ env.locals h (fun y => if y = x then some (.int (a + (i :Int)) t) else m₁ y) → News h₀ env.locals h ((I,it) :: nw) →
      wpAny (model prog w) A (execs body env) (TurnEnd h₀ env.locals { s with heap :=h,toks :=tk } ((I,it) :: []) K (J (i + 1)) Q) E { s with heap :=h,toks :=tk })
    (fin :∀ m₁ nw h tk,K m₁ → J n nw → Fr h₀ env.locals h m₁ → News h₀ env.locals h nw → Q .next { s with heap :=h,toks :=tk })
    {m :Str → Option Value} {news :List (Addr × Obj)} (hK :K m) (h0 :J 0 news) :RangeRest prog w A E h₀ env x body Q s I a n n 0 m news :=by
  have go :∀ k i m nw,i + k = n → K m → J i nw → RangeRest prog w A E h₀ env x body Q s I a n k i m nw :=by
    intros k
    induction k with
    | zero =>
      intros i m nw e hK hJ
      have e' :i = n :=e
      subst e'
      exact fun h tk F N => fin m nw h tk hK hJ F N
    | succ k ih =>
      intros i m nw e hK hJ t h tk F N
      refine wpAny_mono (step i m nw t h tk _ (by omega) hK hJ F N) (fun f s₃ z => ?_) fun _ _ e => e
      have fin' :∀ s₃,(∃ h' tk' m' nw',s₃ = { ({ s with heap :=h,toks :=tk } :Shared) with heap :=h',toks :=tk' } ∧ Fr h₀ env.locals h' m' ∧ News h₀ env.locals h' ((I,itR (a + ((i + 1 :Nat) :Int)) ((n :Int) - ((i + 1 :Nat) :Int))) :: nw') ∧ (∀ p ∈ nw',∀ q ∈ ([(I,itR (a + ((i + 1 :Nat) :Int)) ((n :Int) - ((i + 1 :Nat) :Int)))] :List (Addr × Obj)),p.1 ≠ q.1) ∧ K m' ∧ J (i + 1) nw') →
          UnrEnd h₀ env.locals { s with heap :=h,toks :=tk } I (itR (a + ((i + 1 :Nat) :Int)) ((n :Int) - ((i + 1 :Nat) :Int))) (RangeRest prog w A E h₀ env x body Q s I a n k (i + 1)) s₃ :=by
        rintro s₃ ⟨h',tk',m',nw',e1,F',N',ne,hK',hJ'⟩
        exact ⟨h',tk',m',nw',e1,F',N',fun p hp => ne p hp _ (List.mem_singleton.mpr rfl),ih (i + 1) m' nw' (by omega) hK' hJ'⟩
      cases f with
      | ret v => exact z
      | brk => exact z
      | next => exact fin' _ z
      | cont => exact fin' _ z
  exact go n 0 m news (by omega) hK h0
end
end
end
section
open PySem PySem.W PySem.Calls PySem.Spec PyProof.Rows
section
section
variable {prog :Program} {w :World} {A :Around} {E :Value → Shared → Prop} {env :Env} {test :PySem.Expr} {body orelse :List Stmt} {Q :Flow → Shared → Prop}
theorem while_inv (P :Nat → Shared → Prop) (hE :PassesOwn (model prog w) A env E) (h0 :∀ s,¬ P 0 s)
    (step :∀ f s,P (f + 1) s → wpAny (model prog w) A (isTrue test env (eval test env)) (fun b s₂ => WhlIf b (wpAny (model prog w) A (execs body env) (fun fl s₃ => match fl with | .next => P f s₃ | .cont => P f s₃ | .brk => Q .next s₃ | .ret v => Q (.ret v) s₃) E s₂) (wpAny (model prog w) A (execs orelse env) Q E s₂)) E s) :
    ∀ f k s,P f s → WhlRest prog w A E env test body orelse Q k s :=by
  intros f
  induction f with
  | zero => exact fun k s h => absurd h (h0 s)
  | succ f ih =>
    intros k s h
    have turn :WhlRest prog w A E env test body orelse Q (0 + 1) s :=by
      refine whl_turn hE (wpAny_mono (step f s h) (fun b s₂ h₂ => ?_) fun _ _ e => e)
      cases b with
      | false => exact h₂
      | true =>
        refine WhlIf.yes rfl ?_
        have h₃ :wpAny (model prog w) A (execs body env) (fun fl s₃ => match fl with | .next => P f s₃ | .cont => P f s₃ | .brk => Q .next s₃ | .ret v => Q (.ret v) s₃) E s₂ :=by
          unfold WhlIf at h₂
          rwa [if_pos rfl] at h₂
        refine wpAny_mono h₃ (fun fl s₃ z => ?_) fun _ _ e => e
        cases fl with
        | next => exact ih 0 _ z
        | cont => exact ih 0 _ z
        | brk => exact z
        | ret v => exact z
    exact turn
end
end
end
section
open PySem PySem.W PySem.Calls PyProof.Rows PySem.Spec
section
section
variable {prog :Program} {w :World} {M :Model} {A :Around} {E :Value → Shared → Prop} {h :Heap} {g :Array GenState} {d :Drawn} {t :Nat} {os :OsState}
theorem slot_wd_get :Slot "wrapper_descriptor" "__get__" "wrapper_descriptor.__get__" :=.of (owner :="wrapper_descriptor") (n :="__get__") (by rw [typeLookup_type,builtinLookup_eq_fast]; kernel_rfl) (by decide +kernel) (by decide +kernel) (by decide +kernel) (by decide +kernel) (by kernel_rfl)
theorem entry_wd_get :entryFor table "wrapper_descriptor.__get__" = some Builtin.«wrapper_descriptor.__get__» :=entryFor_of_tree (by kernel_rfl)
theorem args_wd_get (a b c :Value) :argsOk "wrapper_descriptor.__get__" ⟨[a,b,c],[]⟩ :=by unfold argsOk; kernel_rfl
theorem own_init :classOwn (.type "Exception") (Str.ofString "__init__") = (pure (some (.builtin "Exception.__init__")) :Sem _) :=by kernel_rfl
theorem e0 :(toString "Exception" ++ toString "." ++ toString (Str.ofString "__init__").toString) = "Exception.__init__" :=by decide +kernel
theorem k0 :builtinKind "Exception.__init__" = some .slot :=by decide +kernel
noncomputable abbrev super_ga_Q (prog :Program) (w :World) (A :Around) (E :Value → Shared → Prop) (h :Heap) (g :Array GenState) (d :Drawn) (t :Nat) (os :OsState) (so x C :Addr) (l₀ :List Value) (tk :Tok) (Q :Fin → Shared → Prop) :Prop :=∀ (hso :h.get? so = some { cls :=.type "super",dict :=none,data :=.fields #[.ref C,.ref x,.ref C],slots :=#[] }) (hno :Looks (model prog w) h (opaqueClassAbove (.ref C)) none) (hC :Looks (model prog w) h (mroOf (.ref C)) l₀) (hl :(l₀.dropWhile (· != .ref C)).drop 1 = [.type "Exception",.type "BaseException",.type "object"]) (hxC :x ≠ C) (hq :∀ A' E',wpAny (model prog w) A' (call (.builtin "wrapper_descriptor.__get__") [.builtin "Exception.__init__",.ref x,.ref C]) (fun v s' => Q (.done (.ret v)) s') E' ⟨h,g,d,t,os⟩),wpAny (model prog w) A (Builtin.«super.__getattribute__» ⟨[.ref so,.str (Str.ofString "__init__") tk],[]⟩) Q E ⟨h,g,d,t,os⟩
theorem super_ga_L :∀ prog w A E h g d t os so x C l₀ tk Q,super_ga_Q prog w A E h g d t os so x C l₀ tk Q :=by
  intro prog w A E h g d t os so x C l₀ tk Q
  delta super_ga_Q
  intro hso hno hC hl hxC hq
  have hne :(Value.ref x == Value.ref C) = false :=by simp [hxC]
  have hdt :({ cls :=.type "super",dict :=none,data :=.fields #[.ref C,.ref x,.ref C],slots :=#[] } :Obj).data = .fields #[.ref C,.ref x,.ref C] :=rfl
  have f0 :(#[.ref C,.ref x,.ref C] :Array Value)[0]? = some (.ref C) :=rfl
  have f1 :(#[.ref C,.ref x,.ref C] :Array Value)[1]? = some (.ref x) :=rfl
  have f2 :(#[.ref C,.ref x,.ref C] :Array Value)[2]? = some (.ref C) :=rfl
  unfold Builtin.«super.__getattribute__»
  repeat (first
    | (with_reducible refine wpAny_field hso hdt f0 ?_) | (with_reducible refine wpAny_field hso hdt f1 ?_) | (with_reducible refine wpAny_field hso hdt f2 ?_)
    | (with_reducible refine ks_wpAny_notOpaque hno ?_)
    | (with_reducible refine Looks.at hC ?_; rw [hl])
    | (simp only [hne,Bool.false_eq_true,if_false])
    | wp_step
    | dsimp only)
  rw [e0]
  simp only [k0]
  refine wpAny_of_eq slot_wd_get.lookup ?_
  dsimp only
  refine wpAny_bind (wpAny_holding (wpAny_mono (hq _ _) ?_ fun _ _ e => e))
  intro v s' hv
  repeat (first | exact hv | wp_step | dsimp only)
theorem super_ga {so x C :Addr} {l₀ :List Value} {tk :Tok} {Q :Fin → Shared → Prop}
    (hso :h.get? so = some { cls :=.type "super",dict :=none,data :=.fields #[.ref C,.ref x,.ref C],slots :=#[] }) (hno :Looks (model prog w) h (opaqueClassAbove (.ref C)) none)
    (hC :Looks (model prog w) h (mroOf (.ref C)) l₀) (hl :(l₀.dropWhile (· != .ref C)).drop 1 = [.type "Exception",.type "BaseException",.type "object"]) (hxC :x ≠ C)
    (hq :∀ A' E',wpAny (model prog w) A' (call (.builtin "wrapper_descriptor.__get__") [.builtin "Exception.__init__",.ref x,.ref C]) (fun v s' => Q (.done (.ret v)) s') E' ⟨h,g,d,t,os⟩) :
    wpAny (model prog w) A (Builtin.«super.__getattribute__» ⟨[.ref so,.str (Str.ofString "__init__") tk],[]⟩) Q E ⟨h,g,d,t,os⟩ :=super_ga_L prog w A E h g d t os so x C l₀ tk Q hso hno hC hl hxC hq
end
end
end
section
open PySem PySem.W PySem.Calls PyProof.Rows PySem.Spec PySem.W.X
section
section
variable {w :World} {A :Around} {E :Value → Shared → Prop} {h :Heap} {g :Array GenState} {d :Drawn} {t :Nat} {os :OsState} {Q :Value → Shared → Prop}
noncomputable abbrev mwObj (x :Addr) :Obj :={ cls :=.type "method-wrapper",data :=.fields #[.builtin "Exception.__init__",.ref x] }
noncomputable abbrev excObj (dx :Option Addr) (t0 :Addr) :Obj :={ cls :=.ref 33,dict :=dx,data :=.fields #[.ref t0,.none,.none,.none,.bool false,.none],slots :=#[] }
local macro_rules | `(tactic| x_close) => `(tactic| k_extra "x_close2")
theorem kw5 :True :=by
  (k_with "x_close2" => (exact ⟨_,_,_,rfl,rfl,by assumption⟩))
  trivial
noncomputable def Ran (h :Heap) (g :Array GenState) (d :Drawn) (os :OsState) (nw :Addr → List (Addr × Obj)) (v :Addr → Value) (r :Value) (s' :Shared) :Prop :=∃ h' m t',r = v m ∧ s' = ⟨h',g,d,t',os⟩ ∧ Mem h h' [] (nw m)
noncomputable abbrev run_get_Q (w :World) (A :Around) (E :Value → Shared → Prop) (h :Heap) (g :Array GenState) (d :Drawn) (t :Nat) (os :OsState) (x t0 :Addr) :Prop :=∀ (X :(Mine.hd.heap_39 w.params).In h) (hx :h.get? x = some { cls :=.ref 33,dict :=none,data :=.fields #[.ref t0,.none,.none,.none,.bool false,.none],slots :=#[] }),wpAny (model rw_tg0048_01.row.prog w) A (call (.builtin "wrapper_descriptor.__get__") [.builtin "Exception.__init__",.ref x,.ref 33]) (Ran h g d os (fun m => [(m,mwObj x)]) .ref) E ⟨h,g,d,t,os⟩
theorem run_get_L :∀ w A E h g d t os x t0,run_get_Q w A E h g d t os x t0 :=by
  intro w A E h g d t os x t0
  delta run_get_Q
  intro X hx
  x_run
theorem run_get {x t0 :Addr} (X :(Mine.hd.heap_39 w.params).In h) (hx :h.get? x = some { cls :=.ref 33,dict :=none,data :=.fields #[.ref t0,.none,.none,.none,.bool false,.none],slots :=#[] }) :
    wpAny (model rw_tg0048_01.row.prog w) A (call (.builtin "wrapper_descriptor.__get__") [.builtin "Exception.__init__",.ref x,.ref 33]) (Ran h g d os (fun m => [(m,mwObj x)]) .ref) E ⟨h,g,d,t,os⟩ :=run_get_L w A E h g d t os x t0 X hx
end
end
end
section
open PySem PySem.W PySem.Calls PyProof.Rows PySem.Spec PySem.W.X
section
noncomputable abbrev PG :Program :=rw_tg0048_01.row.prog
section
variable {w :World} {A :Around} {E :Value → Shared → Prop} {h :Heap} {g :Array GenState} {d :Drawn} {t :Nat} {os :OsState}
noncomputable abbrev errObj :Obj :=excClassObj (Str.ofString "DiskError") (Str.ofString "DiskError") 33 32 [.type "Exception"] [.type "Exception",.type "BaseException",.type "object"] true [] [] false none none (some (.ref 15)) none (some (.str (Str.ofString "DiskError") 201)) (some (.str (Str.ofString "DiskError") 209)) (some (.bool true)) "Exception.__new__"
theorem cls33 (X :(Mine.hd.heap_39 w.params).In h) :h.get? 33 = some errObj :=X 33 _ (by kernel_rfl)
theorem ns32 (X :(Mine.hd.heap_39 w.params).In h) :∃ mN,h.Ns 32 mN ∧ mN "__init__" = some (.ref 30) ∧ mN "__setattr__" = none ∧ mN "word" = none :=by
  have e :=X 32 _ (by k_is)
  refine ⟨fun z => nsFind _ z,⟨_,_,_,e,rfl,?_,fun _ => rfl⟩,by kernel_rfl,by kernel_rfl,by kernel_rfl⟩
  intros x hx
  simp only [List.mem_toArray,List.mem_cons,List.not_mem_nil,or_false] at hx
  rcases hx with rfl | rfl | rfl | rfl | rfl | rfl <;> exact ⟨_,_,rfl⟩
structure Exc (h h' :Heap) (e :Addr) (word :Str) (tk :Tok) :Prop where
  keep :∀ b o,h.get? b = some o → h'.get? b = some o
  new :h.get? e = none
  obj :∃ dx t0,h'.get? e = some (excObj (some dx) t0) ∧ ∃ mA,h'.Ns1 dx mA ∧ mA "word" = some (.str word tk)
theorem keeps_mw {M :Model} {q e :Addr} (h :Heap) (X :h.get? q = some (mwObj e)) :∃ k,(k = Keeper.frame ∨ k = Keeper.machine ∨ k = Keeper.boundFrame) ∧ Looks M h (keeperOf (.ref q)) k :=
  ⟨.machine,.inr (.inl rfl),(Looks.ld (part :=none) X).andThen .now⟩
noncomputable abbrev call_mw_Q (w :World) (A :Around) (E :Value → Shared → Prop) (h :Heap) (g :Array GenState) (d :Drawn) (t :Nat) (os :OsState) (q e t0 :Addr) (rest :List Value) (Q :Value → Shared → Prop) :Prop :=∀ (X :(Mine.hd.heap_39 w.params).In h) (hq :h.get? q = some (mwObj e)) (he :h.get? e = some (excObj none t0)) (hrest :rest.length ≤ sizeLine) (k :∀ h' t1,(∀ b o,b ≠ e → h.get? b = some o → h'.get? b = some o) → h'.get? e = some (excObj none t1) → Q .none ⟨h',g,d,t,os⟩),wpAny (model PG w) A (call (.ref q) rest) Q E ⟨h,g,d,t,os⟩
theorem call_mw_L :∀ w A E h g d t os q e t0 rest Q,call_mw_Q w A E h g d t os q e t0 rest Q :=by
  refine ei8 (h :=?_)
  generalize (ep8 _).1 = w
  generalize (ep8 _).2.1 = A
  generalize (ep8 _).2.2.1 = E
  generalize (ep8 _).2.2.2.1 = h
  generalize (ep8 _).2.2.2.2.1 = g
  generalize (ep8 _).2.2.2.2.2.1 = d
  generalize (ep8 _).2.2.2.2.2.2.1 = t
  generalize (ep8 _).2.2.2.2.2.2.2 = os
  refine ei5 (h :=?_)
  generalize (ep5 _).1 = q
  generalize (ep5 _).2.1 = e
  generalize (ep5 _).2.2.1 = t0
  generalize (ep5 _).2.2.2.1 = rest
  generalize (ep5 _).2.2.2.2 = Q
  delta call_mw_Q
  intros X hq he hrest k
  refine wpAny_call (codeAny_of_tree ?_)
  show wpAny _ A.in1 (callAny (.ref q) _) _ _ _
  unfold callAny
  refine wpAny_bind (wpAny_load hq ?_)
  show wpAny _ _ (do checkBoundCall "Exception.__init__" ⟨.ref e :: rest,[]⟩; again (.builtin "Exception.__init__" ⟨.ref e :: rest,[]⟩)) _ _ _
  have F :=PySem.F.excBase_Exception
  have hshort :=F.noStar
  have hC :=cls33 X
  refine wpAny_bind ?_
  simp only [checkBoundCall,F.initKind,F.initRow]
  repeat (first | with_reducible refine wpAny_loadPart_at he ?_ | with_reducible refine wpAny_loadPart_at hC ?_ | with_reducible refine wpAny_load hC ?_ | wp_step)
  refine wpAny_onRaise ?_
  rw [show ∀ (a b :String) (n :Nat),Bind.check ⟨.positional,"*","Exception",.self,[⟨"args",.varPos,false⟩]⟩ a b n (List.map (fun x => x.fst) ({ pos :=Value.ref e :: rest } :Args).kw) = pure () from
    fun a b n => check_star_args _ _ _ _ _ _]
  refine wpAny_pure ?_
  repeat (first | wp_step)
  refine ⟨plainId_quiet F.init.plain _,codeAny_builtin F.initEntry ?_⟩
  rw [Around.under_plainId F.init.plain _]
  unfold Builtin.«BaseException.__init__»
  have hne :h.objs.size ≠ e :=Nat.ne_of_gt (Heap.lt_size he)
  have he' :(h.push { cls :=.type "tuple",data :=.seq rest.toArray }).get? e = some (excObj none t0) :=Heap.get?_push_of_some _ he
  repeat (first | wp_step)
  refine k _ h.objs.size (fun b o hb e₀ => ?_) ?_
  · rw [Heap.get?_update_other _ _ (Ne.symm hb)]
    exact Heap.get?_push_of_some _ e₀
  · rw [Heap.get?_update_self _ he' rfl]
    rfl
theorem call_mw {q e t0 :Addr} {rest :List Value} {Q :Value → Shared → Prop} :call_mw_Q w A E h g d t os q e t0 rest Q :=call_mw_L w A E h g d t os q e t0 rest Q
theorem method_sb {so x t0 :Addr} {pl :Sem Bool} {Q :Value × List Value → Shared → Prop} (X :(Mine.hd.heap_39 w.params).In h)
    (hso :h.get? so = some { cls :=.type "super",dict :=none,data :=.fields #[.ref 33,.ref x,.ref 33],slots :=#[] }) (hx :h.get? x = some (excObj none t0))
    (hq :∀ h' m t',(∀ b o,h.get? b = some o → h'.get? b = some o) → h'.get? m = some (mwObj x) → Q (.ref m,[]) ⟨h',g,d,t',os⟩) :
    wpAny (model PG w) A (getMethod (.ref so) (Str.ofString "__init__") pl) Q E ⟨h,g,d,t,os⟩ :=by
  have hlk :=F.ks_slot_super_ga.lookup
  have hcan :=F.ks_canon_super_ga
  have hT :∀ t',(⟨h,g,d,t',os⟩ :Shared).TypeIs (.ref so) "super" :=fun _ => ⟨_,hso,rfl⟩
  have hxC :x ≠ 33 :=fun e => by
    have :=cls33 X
    rw [← e,hx] at this
    cases this
  unfold getMethod
  refine wpAny_bind (wpAny_specialOf (hT _) hlk ?_)
  show wpAny _ _ (if (Manifest.canonical "super.__getattribute__" != "object.__getattribute__") = true then _ else _) _ _ _
  rw [if_pos hcan]
  unfold getAttr getAttrBy
  refine wpAny_bind (wpAny_bind (wpAny_mkText (wpAny_holding (wpAny_bind (wpAny_typeOf (hT _) (wpAny_bind (wpAny_of_eq hlk ?_)))))))
  show wpAny _ _ (getAttrByItsOwn (.ref so) (.str (Str.ofString "__init__") t) (.type "super") (.builtin "super.__getattribute__") true false) _ _ _
  unfold getAttrByItsOwn hookBefore callGetattribute boundAndCalled
  refine wpAny_bind (wpAny_of_eq (show (if onTheHeap (.type "super") then typeLookup (.type "super") "__getattr__" else pure none) = pure none from rfl) ?_)
  refine wpAny_bind (wpAny_attempt (wpAny_holding ?_))
  show wpAny _ _ (bindSpecial (.builtin "super.__getattribute__") (.ref so) >>= _) _ _ _
  refine wpAny_bind (wpAny_of_eq (F.ks_slot_super_ga.bind _) ?_)
  refine wpAny_mono (Q :=Ran h g d os (fun m => [(m,mwObj x)]) .ref) (E :=fun _ _ => False)
    (wpAny_call_entry F.ks_slot_super_ga (hT _) F.ks_entry_super_ga (super_ga (C :=33) (l₀ :=[.ref 33,.type "Exception",.type "BaseException",.type "object"]) hso (looks_opaque X (by k_is)) ?_ rfl hxC (fun A' E' => wpAny_mono (run_get X hx) (fun v s' hv => ⟨_,rfl,hv⟩) fun _ _ e => e)) (F.ks_gaArgs_super _ _)) (fun v s' hv => ?_) fun _ _ z => z.elim
  · intros A Q E s k q
    obtain ⟨hh,gg,dd,tt,oo⟩ :_ :=s
    exact wpAny_mroOf_exc (k _ _ (cls33 X)) q
  · obtain ⟨h',m,t',rfl,rfl,D⟩ :_ :=hv
    refine wpAny_pure (wpAny_pure (hq h' m t' (fun b o e => D.keep b o e ?_) (D.nw _ (List.mem_cons_self)).1))
    simp [away]
theorem inst_none {x t0 :Addr} (hx :h.get? x = some (excObj none t0)) :h.Inst x 33 (fun _ => none) :=⟨_,hx,rfl,(fun c e => by cases e),.inl ⟨rfl,fun _ => rfl⟩⟩
theorem word_none :typeLookup (.type "Exception") "word" = pure none :=by rw [typeLookup_type,builtinLookup_eq_fast]; kernel_rfl
theorem enterS {s :Shared} {loose :List Str} {mean :ExcName → Option Value} {mg mb :Str → Option Value} {R :Result → Shared → Prop} {name qual :Str} {params :Arguments} {body :List Stmt} {scope :Scope} {dV kV doc pm cdv ct oc :Value} {an od :Option Addr} {osl :Array (Option Value)} {f cc :Addr} {args :Args} {binds :List (Str × Value)}
    (X :(Mine.hd.heap_39 w.params).In s.heap) (T :Top topProg loose mean mg mb s.heap) (hroom :A.depth < recursionLimit)
    (ho :(Mine.hd.heap_39 w.params).lookup f = some ⟨oc,od,.func (ksFn name qual params body scope dV kV doc pm an cdv ct cc),osl⟩) (hcd :codeIn (Mine.hd.heap_39 w.params) cdv qual = true)
    (hbind :BindsTo s (ksFn name qual params body scope dV kV doc pm an cdv ct cc) args binds) (hloc :∀ y ∈ binds,scope.names.lookup y.1 = some .local)
    (h :∀ L' h₁ tk,Fr s.heap L' h₁ (frm binds.reverse) → (∀ b o,s.heap.get? b = some o → b ≠ L') →
      _root_.PySem.wpAt (model PG w) (A.deeper (ksEnv qual scope L' f cdv cc)) (.func body (ksEnv qual scope L' f cdv cc)) (execs body (ksEnv qual scope L' f cdv cc))
        (fun fl s' => R (.ok (.ret (match fl with | .ret v => v | _ => .none))) s')
        (fun e s' => wpAny (model PG w) (A.deeper (ksEnv qual scope L' f cdv cc)) (leaving (ksEnv qual scope L' f cdv cc) e) (fun _ s'' => R (.error e) s'') (fun e' s'' => R (.error e') s'') s')
        { s with heap :=h₁,toks :=tk })
    (hcell :∀ x ∈ scope.names,x.2 ≠ .cell) (hco :scope.isCoroutine = false) (hgen :scope.isGenerator = false) (hk :scope.kind = .function) :codeAny (model PG w) A (.call (.ref f) args) R s :=by
  refine ks_codeAny_call_defAt (fd :=ksFn name qual params body scope dV kV doc pm an cdv ct cc) (body :=body) (binds :=binds) hroom (X _ _ ho) rfl T.nolimit (codeRec_of X hcd) rfl hbind hcell hloc (fun h₁ hns hk₁ => ?_) hco hgen hk
  exact h s.heap.objs.size h₁ _ (frmF ⟨hns,hk₁,Nat.le_refl _⟩) fun b o e => Nat.ne_of_lt (Heap.lt_size e)
theorem callWith_mw {M :Model} {s :Shared} {pos :Pos} {env :Env} {first :List Value} {q x :Addr} {e :Expr} {rest :List Expr} {Q :Value → Shared → Prop} (h :wpAny M A (spliced (backTo pos (starEach (e :: rest) env))) (fun vs s₁ => s₁.heap.get? q = some (mwObj x) ∧ wpAny M A (call (.ref q) (first ++ vs)) Q E s₁) E s)
    (he :starEach (e :: rest) env = (false,eval e env) :: starEach rest env :=by rfl) (hplain :(backTo pos (starEach rest env)).any (·.1) = false :=by rfl) :
    wpAny M A (callWith pos (.ref q) first (backTo pos (starEach (e :: rest) env)) []) Q E s :=by
  rw [he] at h ⊢
  exact callWith_of (by show ((false || (backTo pos (starEach rest env)).any (·.1)) || false) = false; rw [hplain]; rfl) keeps_mw (evalArgs_plain h)
noncomputable abbrev mk_exc_Q (w :World) (A :Around) (E :Value → Shared → Prop) (h :Heap) (g :Array GenState) (d :Drawn) (t :Nat) (os :OsState) (loose :List Str) (mean :ExcName → Option Value) (mg mb :Str → Option Value) (word :Str) (tk :Tok) (Q :Value → Shared → Prop) :Prop :=∀ (X :(Mine.hd.heap_39 w.params).In h) (T :Top topProg loose mean mg mb h) (hroom :(A.under (.builtin "type.__call__" ⟨[.ref 33,.str word tk],[]⟩)).depth < recursionLimit) (hq :∀ h' e t',Exc h h' e word tk → Q (.ref e) ⟨h',g,d,t',os⟩),wpAny (model PG w) A (call (.ref 33) [.str word tk]) Q E ⟨h,g,d,t,os⟩
theorem mk_exc_L :∀ w A E h g d t os loose mean mg mb word tk Q,mk_exc_Q w A E h g d t os loose mean mg mb word tk Q :=by
  refine ei8 (h :=?_)
  generalize (ep8 _).1 = w
  generalize (ep8 _).2.1 = A
  generalize (ep8 _).2.2.1 = E
  generalize (ep8 _).2.2.2.1 = h
  generalize (ep8 _).2.2.2.2.1 = g
  generalize (ep8 _).2.2.2.2.2.1 = d
  generalize (ep8 _).2.2.2.2.2.2.1 = t
  generalize (ep8 _).2.2.2.2.2.2.2 = os
  refine ei7 (h :=?_)
  generalize (ep7 _).1 = loose
  generalize (ep7 _).2.1 = mean
  generalize (ep7 _).2.2.1 = mg
  generalize (ep7 _).2.2.2.1 = mb
  generalize (ep7 _).2.2.2.2.1 = word
  generalize (ep7 _).2.2.2.2.2.1 = tk
  generalize (ep7 _).2.2.2.2.2.2 = Q
  delta mk_exc_Q
  intros X T hroom hq
  obtain ⟨mN,hn,hi,hsa,hwd⟩ :_ :=ns32 X
  have h30 :=X 30 _ (by k_is)
  refine wpAny_call_exc_init F.excBase_Exception (cls33 X) hn hi h30 rfl (fun h₁ e M => ?_)
  obtain ⟨kp,en,t0,et,tn,tt⟩ :_ :=M
  have X₁ :(Mine.hd.heap_39 w.params).In h₁ :=X.keeps kp
  have T₁ :=T.keeps kp
  refine wpAny_call ?_
  refine' enterS ?k1 ?k2 ?k3 ?k6 ?k7 ?k9 ?kB ?_ ?c5 ?c2 ?c3 ?c4
  case k1 => exact X₁
  case k2 => exact T₁
  case k3 => exact hroom
  case k6 => k_is
  case k7 => k_is
  case k9 => exact BindsTo.of_eq rfl
  case kB => exact locs rfl
  case c5 => decide
  case c2 => exact rfl
  case c3 => exact rfl
  case c4 => exact rfl
  intros L h₂ tk₂ F₂ nL
  have F₂ :Fr h₁ L h₂ (frm [(Str.ofString "word",.str word tk),(Str.ofString "self",.ref e)]) :=F₂
  have neL :e ≠ L :=nL _ _ et
  dsimp only
  have I₂ :InstAt h₂ e (excObj none t0) 33 none :=⟨F₂.keep _ _ et,rfl,rfl,trivial⟩
  refine ks_wpAt_execs_cons (ks_wpAt_Expr_any (ks_wpAt_MethodCall ?_))
  refine ks_node (news :=[]) (x :=e) F₂ X₁ (fun _ h => nomatch h) T₁ (by k_is) (by rfl) (by rfl) I₂ (by k_is) (by rfl) (by first | rfl | decide) (by k_is) (by k_is) (by k_is) (by k_is) (by first | rfl | decide) (by rfl) (by rfl) (by rfl) (by rfl) (by first | rfl | decide) (by first | rfl | boot_by_name) ?_
  intros so h₃ F₃ N₃ l₃
  dsimp only
  have e₃ :=F₃.keep _ _ et
  refine method_sb (X₁.keeps F₃.keep) (N₃ _ List.mem_cons_self).1 e₃ ?_
  intros h₄ m t₄ kp₄ hm
  have F₄ :Fr h₁ L h₄ (frm [(Str.ofString "word",.str word tk),(Str.ofString "self",.ref e)]) :=by
    obtain ⟨oL,es,ep,hL,r⟩ :_ :=F₃.ns
    exact ⟨⟨oL,es,ep,kp₄ _ _ hL,r⟩,fun b o z => kp₄ _ _ (F₃.keep _ _ z),F₃.above⟩
  clear F₂ F₃ N₃
  dsimp only
  refine callWith_mw (x :=e) ?_
  dsimp only [frm] at F₄
  have X₀ :=X₁
  k_steps
  refine call_mw (X₁.keeps F₄.keep) hm (kp₄ _ _ e₃) (by size_fits) ?_
  intros h₅ t1 kp₅ e₅
  have F₅ :Fr {} L h₅ fun z => if z = Str.ofString "word" then some (.str word tk) else if z = Str.ofString "self" then some (.ref e) else none :=by
    obtain ⟨oL,es,ep,hL,r⟩ :_ :=F₄.ns
    refine ⟨⟨oL,es,ep,kp₅ _ _ (Ne.symm neL) hL,r⟩,fun b o z => ?_,Nat.zero_le _⟩
    simp [Heap.get?] at z
  have kp₆ :∀ b o,h.get? b = some o → h₅.get? b = some o :=fun b o z => kp₅ _ _ (fun q => by rw [q,en] at z; cases z) (F₄.keep _ _ (kp _ _ z))
  have X₅ :(Mine.hd.heap_39 w.params).In h₅ :=X.keeps kp₆
  refine wpAt_of_wpAny ?_
  clear F₄ X₁ X₀ kp₄ T₁
  k_steps
  obtain ⟨mN₅,hn₅,hi₅,hsa₅,hwd₅⟩ :_ :=ns32 X₅
  have hxC :e ≠ 33 :=fun q => by
    have :=cls33 X₅
    rw [← q,e₅] at this
    cases this
  refine store_attr F.store_Exception (cls33 X₅) hn₅ hsa₅ hwd₅ word_none hxC (inst_none e₅) ?_
  intros h₇ t₇ I₇ kp₇ sm₇
  have kp₈ :∀ b o,h.get? b = some o → h₇.get? b = some o :=fun b o z => kp₇ b o (fun q => by rw [q,en] at z; cases z) (fun o₀ dx q1 q2 => by rw [e₅] at q1; cases q1; cases q2) (kp₆ _ _ z)
  have X₇ :=X.keeps kp₈
  clear F₅
  dsimp only
  refine wpAny_execs_nil ?_
  refine ⟨rfl,hq _ _ _ ⟨kp₈,en,?_⟩⟩
  obtain ⟨o,ho,hc,_,hd⟩ :_ :=I₇
  obtain ⟨o₁,ho₁,c1,c2,c3,_⟩ :_ :=sm₇ _ e₅
  rw [ho] at ho₁
  cases ho₁
  rcases hd with ⟨q1,q2⟩ | ⟨dx,q1,q2,q3⟩
  · have :=q2 (Str.ofString "word")
    dsimp only at this
    rw [if_pos rfl] at this
    cases this
  · refine ⟨dx,t1,?_,_,q3,if_pos rfl⟩
    obtain ⟨oc,od,dt,sl⟩ :_ :=o
    dsimp only at c1 c2 c3 q1
    subst c1 c2 c3 q1
    exact ho
theorem mk_exc {loose :List Str} {mean :ExcName → Option Value} {mg mb :Str → Option Value} {word :Str} {tk :Tok} {Q :Value → Shared → Prop} :mk_exc_Q w A E h g d t os loose mean mg mb word tk Q :=mk_exc_L w A E h g d t os loose mean mg mb word tk Q
end
end
end
section
open PySem PySem.W PySem.Calls PyProof.Rows PySem.Spec
section
section
variable {w :World} {A :Around} {E :Value → Shared → Prop} {s :Shared} {env :Env}
noncomputable def RaisableD (w :World) (E :Value → Shared → Prop) (v :Value) (s₁ :Shared) :Prop :=
  ∃ e dx t0,v = .ref e ∧ s₁.heap.get? 33 = some errObj ∧ s₁.heap.get? e = some (excObj (some dx) t0) ∧ E (.ref e) s₁
theorem Raise_own {e :Expr} {pos :Pos} {Q :Flow → Shared → Prop} (hh :A.handled = none)
    (h :wpAny (model PG w) A (eval e env) (RaisableD w E) E s) :wpAny (model PG w) A (exec (.Raise (some e) none pos) env) Q E s :=by
  have hcB :(Value.ref 33 :: [Value.type "Exception",.type "BaseException",.type "object"]).contains (.type "BaseException") = true :=by decide
  show wpAny (model PG w) A (do standAt pos; raiseStmt env (some (do let v ← eval e env; standAt pos; pure v)) none) Q E s
  refine wpAny_bind (wpAny_standAt ?_)
  unfold raiseStmt
  dsimp only
  refine wpAny_bind (wpAny_bind (wpAny_mono h (fun v s₁ h₁ => wpAny_bind (wpAny_standAt (wpAny_pure ?_))) fun _ _ x => x))
  obtain ⟨e,dx,t,rfl,hC,he,hE⟩ :_ :=h₁
  obtain ⟨hp,g,d,tk,os⟩ :_ :=s₁
  repeat (first | with_reducible refine wpAny_loadPart_at he ?_ | with_reducible refine wpAny_loadPart_at hC ?_ | (with_reducible refine wpAny_isSubtype_exc hC ?_; rw [hcB]) | wp_step)
  exact wpAny_raiseNew_none hh hE
noncomputable abbrev frs (l :List Env) :List Addr :=l.filterMap (·.frame)
structure Away (h :Heap) (l :List Env) (h' :Heap) (e :Addr) (word :Str) (tk :Tok) :Prop where
  stays :(hideAll h (frs l)).StaysIn h'
  frames :h'.FunFrames (hideAll h (frs l)) l
  slots :h.UpToSlots h'
  new :h.get? e = none
  word :∃ dx mA,TracedD (hideAll h (frs l)) h' e (.ref 33) dx .none ∧ h'.Ns1 dx mA ∧ mA "word" = some (.str word tk)
noncomputable abbrev Stk (h :Heap) (l :List Env) :Prop :=h.FunFrames (hideAll h (frs l)) l
noncomputable def RaiseG (s :Shared) (l :List Env) (word :Str) (v :Value) (s' :Shared) :Prop :=
  ∃ e tk h' t',v = .ref e ∧ s' = { s with heap :=h',toks :=t' } ∧ Away s.heap l h' e word tk
theorem FunFrames.base {h b b' :Heap} (k :∀ x,b.get? x = none → b'.get? x = none) :∀ {l :List Env},h.FunFrames b l → h.FunFrames b' l
  | [],_ => trivial
  | _ :: _,⟨hk,⟨L,o,hf,hn,ho,hd⟩,hr⟩ => ⟨hk,⟨L,o,hf,k _ hn,ho,hd⟩,FunFrames.base k hr⟩
theorem hide_none {h :Heap} {as :List Addr} {x :Addr} (e :h.get? x = none) :(hideAll h as).get? x = none :=by
  cases q :(hideAll h as).get? x with
  | none => rfl
  | some o => rw [of_hideAll _ q] at e; cases e
theorem Stk.more {h h₁ :Heap} {l :List Env} {env :Env} {L :Addr} {m :Str → Option Value} (S :Stk h l) (st :Stay h h₁) (hk :env.scope.kind ≠ .module) (hf :env.frame = some L) (hL :h.get? L = none) (hn :h₁.Ns L m) :
    h₁.FunFrames (hideAll h (frs l)) (env :: l) :=by
  obtain ⟨o,es,ep,ho,hd,_⟩ :_ :=hn
  exact ⟨hk,⟨L,o,hf,hide_none hL,ho,fun vs e => by rw [hd] at e; cases e⟩,Heap.FunFrames.of_keeps (fun b o e _ => ⟨o,st _ _ e,rfl⟩) S⟩
theorem Stk.deeper {h h₁ :Heap} {l :List Env} {env :Env} {L :Addr} {m :Str → Option Value} (S :Stk h l) (st :Stay h h₁) (hk :env.scope.kind ≠ .module) (hf :env.frame = some L) (hL :h.get? L = none) (hn :h₁.Ns L m) :
    Stk h₁ (env :: l) :=by
  have M :=Stk.more S st hk hf hL hn
  have all :∀ {l' :List Env},(∀ x ∈ frs l',x ∈ frs (env :: l)) → h₁.FunFrames (hideAll h (frs l)) l' → h₁.FunFrames (hideAll h₁ (frs (env :: l))) l' :=by
    intros l'
    induction l' with
    | nil => intros _ _; trivial
    | cons e r ih =>
      rintro hs ⟨hk,⟨L,o,hf,hn,ho,hd⟩,hr⟩
      have hL :L ∈ frs (e :: r) :=by simp [frs,hf]
      refine ⟨hk,⟨L,o,hf,hideAll_none _ (hs _ hL),ho,hd⟩,ih (fun x hx => hs x ?_) hr⟩
      simp only [frs,List.filterMap_cons,hf]
      exact List.mem_cons_of_mem _ hx
  exact all (fun _ h => h) M
theorem newL {g h₀ h :Heap} {L :Addr} {m :Str → Option Value} {news :List (Addr × Obj)} (F :Fr g L h m) (kp :∀ b o,h₀.get? b = some o → b ∉ news.map (·.1) → g.get? b = some o) (l1 :∀ p ∈ news,p.1 < L) :h₀.get? L = none :=by
  cases q :h₀.get? L with
  | none => rfl
  | some o =>
    by_cases hm :L ∈ news.map (·.1)
    · obtain ⟨p,hp,e⟩ :_ :=List.mem_map.mp hm
      exact absurd (l1 p hp) (by rw [e]; exact Nat.lt_irrefl _)
    · have :=kp _ _ q hm
      exact absurd (Heap.lt_size this) (Nat.not_lt.mpr F.above)
theorem leave_made {h h₁ h₂ :Heap} {l :List Env} {L e :Addr} {m :Str → Option Value} {word :Str} {tk :Tok} {Q :Unit → Shared → Prop} (hA :A.frames = some (env :: l)) (hf :env.frame = some L) (hk :env.scope.kind ≠ .module)
    (S :Stk h l) (st :Stay h h₁) (hL :h.get? L = none) (hn :h₁.Ns L m) (X :Exc h₁ h₂ e word tk) (hs :s.heap = h₂)
    (k :∀ h₃,Away h l h₃ e word tk → Q () { s with heap :=h₃ }) :wpAny (model PG w) A (leaving env (.ref e)) Q E s :=by
  subst hs
  obtain ⟨dx,t0,he,mA,hd,hw⟩ :_ :=X.obj
  have new :h.get? e = none :=by
    cases q :h.get? e with
    | none => rfl
    | some o => have :=st _ _ q; rw [X.new] at this; cases this
  have st₂ :Stay h s.heap :=fun b o z => X.keep _ _ (st _ _ z)
  have FF :s.heap.FunFrames (hideAll h (frs l)) (env :: l) :=Stk.more S st₂ hk hf hL (hn.keeps X.keep)
  refine leaveD_first hA FF hf he rfl (fun b o z => st₂ _ _ (of_hideAll _ z)) (hide_none new) rfl rfl fun h₃ W T => ?_
  refine k h₃ ⟨W.stays,W.frames.2.2,fun b o z hb => ?_,new,dx,mA,T,?_,hw⟩
  · exact W.slots b o (st₂ _ _ z) hb
  · obtain ⟨o,es,ep,z,q,r⟩ :_ :=hd
    obtain ⟨sl,z'⟩ :_ :=W.slots _ _ z (fun vs => by rw [q]; intros q'; cases q')
    exact ⟨_,es,ep,z',q,r⟩
theorem leave_next {h h₁ h₂ :Heap} {l :List Env} {L e :Addr} {word :Str} {tk :Tok} {Q :Unit → Shared → Prop} (hA :A.frames = some (env :: l)) (hf :env.frame = some L)
    (st :Stay h h₁) (hL :h.get? L = none) (X :Away h₁ (env :: l) h₂ e word tk) (hs :s.heap = h₂)
    (k :∀ h₃,Away h l h₃ e word tk → Q () { s with heap :=h₃ }) :wpAny (model PG w) A (leaving env (.ref e)) Q E s :=by
  subst hs
  obtain ⟨dx,mA,T,hd,hw⟩ :_ :=X.word
  have up :∀ x o,(hideAll h (frs l)).get? x = some o → (hideAll h₁ (frs (env :: l))).get? x = some o :=fun x o z => by
    have z' :=of_hideAll _ z
    refine hideAll_get _ (st _ _ z') fun hm => ?_
    simp only [frs,List.filterMap_cons,hf] at hm
    rcases List.mem_cons.mp hm with rfl | hm
    · rw [hL] at z'; cases z'
    · rw [hideAll_none _ hm] at z; cases z
  have dn :∀ x,(hideAll h₁ (frs (env :: l))).get? x = none → (hideAll h (frs l)).get? x = none :=fun x z => by
    cases q :(hideAll h (frs l)).get? x with
    | none => rfl
    | some o => rw [up _ _ q] at z; cases z
  have new :h.get? e = none :=by
    cases q :h.get? e with
    | none => rfl
    | some o => have :=st _ _ q; rw [X.new] at this; cases this
  obtain ⟨oe,vs,T0,oT,ts,a1,a2,a3,a4,a5,a6⟩ :_ :=T
  refine leaveD_next hA (FunFrames.base dn X.frames) hf ⟨oe,vs,T0,oT,ts,a1,a2,a3,a4,dn _ a5,a6⟩ (fun b o z => X.stays _ _ (up _ _ z)) (hide_none new) fun h₃ W T' => ?_
  refine k h₃ ⟨W.stays,W.frames.2.2,fun b o z hb => ?_,new,dx,mA,T',?_,hw⟩
  · obtain ⟨sl,z'⟩ :_ :=X.slots b o (st _ _ z) hb
    obtain ⟨sl',z''⟩ :_ :=W.slots _ _ z' hb
    exact ⟨sl',z''⟩
  · obtain ⟨o,es,ep,z,q,r⟩ :_ :=hd
    obtain ⟨sl,z'⟩ :_ :=W.slots _ _ z (fun vs => by rw [q]; intros q'; cases q')
    exact ⟨_,es,ep,z',q,r⟩
end
end
end
section
open PySem PySem.W PySem.Calls PyProof.Rows PySem.Spec
section
section
variable {w :World} {A :Around} {E :Value → Shared → Prop} {h :Heap} {g :Array GenState} {d :Drawn} {t :Nat} {os :OsState}
theorem ns32' (X :(Mine.hd.heap_39 w.params).In h) :∃ mN,h.Ns 32 mN ∧ mN "__init__" = some (.ref 30) ∧ mN "__setattr__" = none ∧ mN "word" = none ∧ mN "__getattribute__" = none ∧ mN "__getattr__" = none :=by
  have e :=X 32 _ (by k_is)
  refine ⟨fun z => nsFind _ z,⟨_,_,_,e,rfl,?_,fun _ => rfl⟩,by kernel_rfl,by kernel_rfl,by kernel_rfl,by kernel_rfl,by kernel_rfl⟩
  intros x hx
  simp only [List.mem_toArray,List.mem_cons,List.not_mem_nil,or_false] at hx
  rcases hx with rfl | rfl | rfl | rfl | rfl | rfl <;> exact ⟨_,_,rfl⟩
theorem word_entry {e dx :Addr} {tk tw :Tok} {word :Str} {mA mN :Str → Option Value} {Q :Fin → Shared → Prop} {o :Obj} {vs :Array Value}
    (hC :h.get? 33 = some errObj) (hn :h.Ns 32 mN) (hwd :mN "word" = none) (hx :h.get? e = some o) (hc :o.cls = .ref 33) (hd :o.data = .fields vs) (hdx :o.dict = some dx) (hns :h.Ns1 dx mA) (hv :mA "word" = some (.str word tw)) (hq :Q (.done (.ret (.str word tw))) ⟨h,g,d,t,os⟩) :
    wpAny (model PG w) A (Builtin.«object.__getattribute__» ⟨[.ref e,.str (Str.ofString "word") tk],[]⟩) Q E ⟨h,g,d,t,os⟩ :=by
  unfold Builtin.«object.__getattribute__»
  repeat (any_goals (first | (with_reducible refine wpAny_loadPart_at hx ?_; rw [hc]) | (with_reducible refine wpAny_typeLookup_exc hC hn F.excBase_Exception.mroIs word_none ?_; rw [hwd]) | wp_step))
  rw [hd]
  show wpAny _ _ (instanceDict e false) _ _ _
  unfold instanceDict
  repeat (first | (with_reducible refine wpAny_loadPart_at hx ?_; rw [hc]) | with_reducible refine wpAny_loadPart_at hC ?_ | wp_step)
  rw [hdx]
  repeat (first | (with_reducible refine wpAny_nsGet hns.ns ?_; rw [hv]) | wp_step)
  exact hq
theorem word_attr {e dx :Addr} {tw :Tok} {word :Str} {mA :Str → Option Value} {expr :Bool} {Q :Value → Shared → Prop} {o :Obj} {vs :Array Value} (X :(Mine.hd.heap_39 w.params).In h)
    (hx :h.get? e = some o) (hc :o.cls = .ref 33) (hd :o.data = .fields vs) (hdx :o.dict = some dx) (hns :h.Ns1 dx mA) (hv :mA "word" = some (.str word tw)) (hq :Q (.str word tw) ⟨h,g,d,t + 1,os⟩) :
    wpAny (model PG w) A (getAttr (.ref e) (Str.ofString "word") expr) Q E ⟨h,g,d,t,os⟩ :=by
  have hC :=cls33 X
  obtain ⟨mN,hn,hi,hsa,hwd,hga,hgt⟩ :_ :=ns32' X
  have FB :=PySem.F.attrBase_Exception
  have f3 :=FB.ga.bind (.ref e)
  have hx0 :∀ expr,(expr && onTheHeap (Value.builtin "BaseException.__getattribute__")) = false :=by intros expr; cases expr <;> rfl
  have hx2 :(Value.builtin "BaseException.__getattribute__" == Value.builtin "object.__getattribute__") = false :=by decide +kernel
  have hx1 :(onTheHeap (Value.ref 33) && Value.builtin "BaseException.__getattribute__" == Value.builtin "object.__getattribute__") = false :=by rw [hx2]; rfl
  unfold getAttr
  repeat (any_goals (first | assumption | (with_reducible refine wpAny_loadPart_at hx ?_; rw [hc]) | (with_reducible refine wpAny_typeLookup_exc hC hn FB.mro FB.ga.lookup ?_; rw [hga]) | (with_reducible refine wpAny_typeLookup_exc hC hn FB.mro FB.noGetattr ?_; rw [hgt]) | wp_step))
  refine codeAny_call_builtin FB.ga.plain F.entry_bexc_ga (wpAny_check_ga_own FB hC .base hx hc (word_entry hC hn hwd hx hc hd hdx hns hv ?_))
  repeat (any_goals (first | assumption | wp_step))
end
end
end
section
section
local macro_rules | `(tactic| kst_in) => `(tactic| k_extra "kst_in3")
theorem kw6 :True :=by
  (k_with "kst_in3" => ((intros q9 hq9; first | exact Nat.ne_of_lt ((by assumption :∀ p ∈ _,p.1 < _) q9 hq9) | exact off1_ne (by assumption) q9 hq9)))
  trivial
theorem kw7 :True :=by
  (k_with "q2" => ((refine useI (records_of_extent_ok (by assumption) (by ktr_unf) (by ktr_units) (by ktr_room) (by tb_rel)) (by assumption) (by assumption) ?_; intro t9 h9 tk9 F9 N9; (try dsimp only); (try k_fold))))
  (k_with "mcall ref" => (((with_reducible show wpAny _ _ (call (.ref 99) _) _ _ _); first | k_extra "q2" | k_dflt (k_extra "q2"))))
  (k_with "mcall ref" => (((with_reducible show wpAny _ _ (call (.ref 92) _) _ _ _); first | k_extra "q1" | k_dflt (k_extra "q1"))))
  trivial
section
variable (w dp un fr gd s mg mb G news a vs D)
noncomputable abbrev need_writable_ok_Q :Prop :=∀ (gh :GH w mg mb G) (st :Stay G s.heap) (hn :HN G s.heap news) (lv :Lv dp un 1) (dm :DM w.params a vs D news),wpAny (model rw_tg0048_01.row.prog w) (AR dp un fr gd) (call (.ref 113) [.ref a.d]) (RetG s news IsN) (fun _ _ => False) s
end
theorem need_writable_ok_L :∀ w dp un fr gd s mg mb G news a vs D,need_writable_ok_Q w dp un fr gd s mg mb G news a vs D :=by
  intro w dp un fr gd s mg mb G news a vs D
  delta need_writable_ok_Q
  intro gh st hn lv dm
  obtain ⟨m1,m2,m3,m4,hI,hl⟩ :=dm
  cell_enter
  k_steps
  tb_start
  exact ⟨rfl,rfl⟩
theorem need_writable_ok :need_writable_ok_Q w dp un fr gd s mg mb G news a vs D :=need_writable_ok_L w dp un fr gd s mg mb G news a vs D
section
variable (w dp un fr gd s mg mb G news a vs D)
noncomputable abbrev directory_blocks_ok_Q :Prop :=∀ (gh :GH w mg mb G) (st :Stay G s.heap) (hn :HN G s.heap news) (lv :Lv dp un 1) (dm :DM w.params a vs D news),wpAny (model rw_tg0048_01.row.prog w) (AR dp un fr gd) (call (.ref 106) [.ref a.d]) (RetG s news (IsI 2)) (fun _ _ => False) s
end
theorem directory_blocks_ok_L :∀ w dp un fr gd s mg mb G news a vs D,directory_blocks_ok_Q w dp un fr gd s mg mb G news a vs D :=by
  intro w dp un fr gd s mg mb G news a vs D
  delta directory_blocks_ok_Q
  intro gh st hn lv dm
  obtain ⟨m1,m2,m3,m4,hI,hl⟩ :=dm
  cell_enter
  k_steps
  tb_start
  exact ⟨rfl,_,rfl⟩
theorem directory_blocks_ok :directory_blocks_ok_Q w dp un fr gd s mg mb G news a vs D :=directory_blocks_ok_L w dp un fr gd s mg mb G news a vs D
noncomputable abbrev tupOf (vs :List Value) :Obj :={ cls :=.type "tuple",data :=.seq vs.toArray }
noncomputable abbrev IsI2 (i j :Int) (r :Value) (tl :List (Addr × Obj)) :Prop :=∃ x t u,r = .ref x ∧ tl = [(x,tupOf [.int i t,.int j u])]
theorem useI2 {M :Model} {A :Around} {E :Value → Shared → Prop} {s :Shared} {g :Heap} {L :Addr} {m :Str → Option Value} {news :List (Addr × Obj)} {t :Sem Value} {Q :Value → Shared → Prop} {i j :Int} (spec :wpAny M A t (RetG s news (IsI2 i j)) (fun _ _ => False) s) (F :Fr g L s.heap m) (N :News g L s.heap news)
    (k :∀ (x :Addr) u v h' tk,Fr g L h' m → News g L h' ((x,tupOf [.int i u,.int j v]) :: news) → (∀ q ∈ news,q.1 ≠ x) → Q (.ref x) { s with heap :=h',toks :=tk }) :wpAny M A t Q E s :=
  useG spec F N fun r tl h' tk hP F' N' lt => by rcases hP with ⟨x,u,v,e1,e2⟩; subst e1; subst e2; exact k x u v h' tk F' N' (lt _ (List.mem_singleton.mpr rfl))
section
variable (w dp un fr gd s mg mb G news a vs D)
noncomputable abbrev place_of_ok_Q (i :Int) (t :Tok) :Prop :=∀ (gh :GH w mg mb G) (st :Stay G s.heap) (hn :HN G s.heap news) (lv :Lv dp un 3) (dm :DM w.params a vs D news) (h0 :0 ≤ i) (h1 :i < 140),wpAny (model rw_tg0048_01.row.prog w) (AR dp un fr gd) (call (.ref 316) [.ref a.d,.int i t]) (RetG s news (IsI2 (i / 64) (i % 64))) (fun _ _ => False) s
end
theorem place_of_ok_L :∀ w dp un fr gd s mg mb G news a vs D i t,place_of_ok_Q w dp un fr gd s mg mb G news a vs D i t :=by
  intro w dp un fr gd s mg mb G news a vs D i t
  delta place_of_ok_Q
  intro gh st hn lv dm h0 h1
  rw [show i / 64 = i.fdiv 64 from (Int.fdiv_eq_ediv_of_nonneg _ (by decide)).symm,show i % 64 = i.fmod 64 from (Int.fmod_eq_emod_of_nonneg _ (by decide)).symm]
  have dm0 :=dm
  obtain ⟨m1,m2,m3,m4,hI,hl⟩ :=dm
  cell_enter
  k_steps
  refine retG [_] (by assumption) (by assumption) (by assumption) (by assumption) (by ktr_rel) (fun p hp => by rw [List.mem_singleton.mp hp]; exact List.mem_cons_self) (fun p hp => by rw [List.mem_singleton.mp hp]; kst_in) ⟨_,_,_,rfl,rfl⟩
theorem place_of_ok {i :Int} {t :Tok} :place_of_ok_Q w dp un fr gd s mg mb G news a vs D i t :=place_of_ok_L w dp un fr gd s mg mb G news a vs D i t
section
variable (w dp un fr gd s mg mb G news a vs D)
noncomputable abbrev record_place_ok_Q (b i :Int) (t u :Tok) :Prop :=∀ (gh :GH w mg mb G) (st :Stay G s.heap) (hn :HN G s.heap news) (lv :Lv dp un 3) (dm :DM w.params a vs D news) (h0 :0 ≤ b) (h1 :b < 11) (h2 :0 ≤ i) (h3 :i < 4),wpAny (model rw_tg0048_01.row.prog w) (AR dp un fr gd) (call (.ref 221) [.ref a.d,.int b t,.int i u]) (RetG s news (IsI (b * 128 + i * 32))) (fun _ _ => False) s
end
theorem record_place_ok_L :∀ w dp un fr gd s mg mb G news a vs D b i t u,record_place_ok_Q w dp un fr gd s mg mb G news a vs D b i t u :=by
  intro w dp un fr gd s mg mb G news a vs D b i t u
  delta record_place_ok_Q
  intro gh st hn lv dm h0 h1 h2 h3
  have dm0 :=dm
  obtain ⟨m1,m2,m3,m4,hI,hl⟩ :=dm
  cell_enter
  k_steps
  tb_start
  exact ⟨rfl,_,rfl⟩
theorem record_place_ok {b i :Int} {t u :Tok} :record_place_ok_Q w dp un fr gd s mg mb G news a vs D b i t u :=record_place_ok_L w dp un fr gd s mg mb G news a vs D b i t u
section
variable (w dp un fr gd s mg mb G news)
noncomputable abbrev has_flag_ok_Q (l :Nat) (ws :List Value) (rs :List Int) (n :Nat) (t :Tok) :Prop :=∀ (gh :GH w mg mb G) (st :Stay G s.heap) (hn :HN G s.heap news) (lv :Lv dp un 1) (m1 :(l,listOf ws.toArray n) ∈ news) (hI :IntsAre ws rs) (hl :rs.length = 11),wpAny (model rw_tg0048_01.row.prog w) (AR dp un fr gd) (call (.ref 252) [.ref l,.int 8 t]) (RetG s news (IsB (decide (128 ≤ rs.getD 8 0)))) (fun _ _ => False) s
end
theorem has_flag_ok_L :∀ w dp un fr gd s mg mb G news l ws rs n t,has_flag_ok_Q w dp un fr gd s mg mb G news l ws rs n t :=by
  intro w dp un fr gd s mg mb G news l ws rs n t
  delta has_flag_ok_Q
  intro gh st hn lv m1 hI hl
  cell_enter
  k_steps
  tb_start
  exact ⟨rfl,rfl⟩
theorem has_flag_ok {l :Nat} {ws :List Value} {rs :List Int} {n :Nat} {t :Tok} :has_flag_ok_Q w dp un fr gd s mg mb G news l ws rs n t :=has_flag_ok_L w dp un fr gd s mg mb G news l ws rs n t
theorem kw8 :True :=by
  (k_with "meval ListComp" => ((k_dflt (refine LCg.ListComp_U (F₀ :=by k_asm) (by rfl) (by decide) (by rfl) (by decide) (by rfl) ?_))))
  trivial
section
variable (w dp un fr gd s mg mb G news)
noncomputable abbrev bare_ok_Q (l :Nat) (ws :List Value) (rs :List Int) (n :Nat) :Prop :=∀ (gh :GH w mg mb G) (st :Stay G s.heap) (hn :HN G s.heap news) (lv :Lv dp un 1) (m1 :(l,listOf ws.toArray n) ∈ news) (hI :IntsAre ws rs) (hl :rs.length = 11),wpAny (model rw_tg0048_01.row.prog w) (AR dp un fr gd) (call (.ref 240) [.ref l]) (RetG s news (IsIL (rs.map fun x => Builtin.bitAnd x 127))) (fun _ _ => False) s
end
theorem bare_ok_L :∀ w dp un fr gd s mg mb G news l ws rs n,bare_ok_Q w dp un fr gd s mg mb G news l ws rs n :=by
  intro w dp un fr gd s mg mb G news l ws rs n
  delta bare_ok_Q
  intro gh st hn lv m1 hI hl
  cell_enter
  k_steps
  refine LCg.CompSrc.ledger (by rfl) (by assumption) (by assumption) (by k_mem) (by have :=hI.length; rw [List.size_toArray,this,hl]; decide) ?_
  intro g9
  refine rest_list hI (Or.inr ⟨_,by k_mem,rfl,_,rfl⟩) (fun n y => ∃ u,y = .int (Builtin.bitAnd n 127) u) ?_ ?_
  · intro n t I oI C oC D ys m₂ h tk E' hm hC hx F N
    k_steps
    exact outL (by assumption) (by assumption) ⟨_,rfl⟩
  · intro ys hp
    unfold LCg.FinE
    intro D h tk F N o1
    k_steps
    ktr_step
    exact paired_ints hp
theorem bare_ok {l :Nat} {ws :List Value} {rs :List Int} {n :Nat} :bare_ok_Q w dp un fr gd s mg mb G news l ws rs n :=bare_ok_L w dp un fr gd s mg mb G news l ws rs n
end
theorem kw9 :True :=by
  (k_with "mcall ref" => (refine toStop ?_))
  (k_with "meval ListComp" => (refine toStop ?_))
  trivial
end
section
open PySem PySem.W PySem.Calls PySem.Spec PyProof.Rows
section
open PyProof.Rows.LCg
noncomputable abbrev pair_block_Q (prog :Program) (w :World) (A :Around) (E :Value → Shared → Prop) (h₀ :Heap) (L :Addr) (m :Str → Option Value) (env :Env) (elt iter :Expr) (x x₂ :Str) (px px₂ tp :Pos) (tk :Nat) (scope :Scope) (cl :List (Str × Addr)) (pos :Pos) (s₂ :Shared) (I :Addr) (fp wr :List Addr) (n :Nat) (Pt :Nat → Array Value → Prop) (St :Nat → Heap → Prop) (Mid :Nat → Addr → Heap → Prop) (news :List (Addr × Obj)) (RR :Value → Addr → Result → Shared → Prop) (J :Nat → Value → Prop) :Prop :=∀ (W :WalksU prog w A I fp wr n Pt St Mid) (hsz :n ≤ sizeLine) (hPt :∀ i vals,Pt i vals → ∃ a b,vals = #[a,b]) (hcell :∀ y ∈ scope.names,y.2 ≠ .cell) (hkind :scope.kind = .function) (hx :scope.names.lookup x = some .local) (hx₂ :scope.names.lookup x₂ = some .local) (hxx :x ≠ x₂) (hh :A.handled = none) (hst :St 0 s₂.heap) (hfp :∀ b ∈ fp,b < s₂.heap.objs.size) (F :Fr h₀ L s₂.heap m) (N :News h₀ L s₂.heap news) (hLf :L ∉ fp) (hwr :∀ b ∈ wr,h₀.get? b = none) (off :∀ p ∈ news,p.1 ∉ wr) (turn :∀ i v₁ v₂ C oC D ys m₂ h tk news' (E' :Value → Shared → Prop),i < n → Pt i #[v₁,v₂] → NsObj oC m₂ → m₂ x = some v₁ → m₂ x₂ = some v₂ → (∀ p ∈ news,p ∈ news') → Fr h₀ L h m → News h₀ L h ((C,oC) :: (D,lst ys) :: news') →
      wpAny (model prog w) A (eval elt (compEnvC scope cl C env)) (OutL h₀ L m { s₂ with heap :=h,toks :=tk } ((C,oC) :: (D,lst ys) :: news') (J i)) E' { s₂ with heap :=h,toks :=tk }) (hRR :∀ D C h tk m' ys,ys.length = n → (∀ i (hi :i < ys.length),J i ys[i]) → Fr h₀ L h m → News h₀ L h ((D,lst ys) :: news) → (∀ p ∈ news,p.1 ≠ D) → h.Ns C m' → h₀.get? C = none → h₀.get? D = none → C ≠ L → D ≠ L → C ≠ D → (∀ p ∈ news,p.1 ≠ C) →
      RR (.ref D) C (.ok .next) { s₂ with heap :=h,toks :=tk }),wpAny (model prog w) A (newList []) (fun acc s₃ => wpAny (model prog w) A (newFunctionEnv scope env.globals cl [] env.qual none .none (some env)) (fun cenv s₄ =>
      codeAny (model prog w) A (.compStart (.ListComp elt [⟨.Tuple [.Name x px,.Name x₂ px₂] tk tp,iter,[],0⟩] scope pos) 0 (.ref I) acc { cenv with scope :=relabel scope env }) (RR acc cenv.locals) s₄) E s₃) E s₂
theorem pair_block_L :∀ prog w A E h₀ L m env elt iter x x₂ px px₂ tp tk scope cl pos s₂ I fp wr n Pt St Mid news RR J,pair_block_Q prog w A E h₀ L m env elt iter x x₂ px px₂ tp tk scope cl pos s₂ I fp wr n Pt St Mid news RR J :=by
  intro prog w A E h₀ L m env elt iter x x₂ px px₂ tp tk scope cl pos s₂ I fp wr n Pt St Mid news RR J
  delta pair_block_Q
  intro W hsz hPt hcell hkind hx hx₂ hxx hh hst hfp F N hLf hwr off turn hRR
  refine wpAny_newObj_type (wpAny_newFunctionEnv hcell (by intro y hy; simp at hy) ?_ hkind)
  intro h₁ hns₁ hsb₁
  dsimp only at hns₁ hsb₁ ⊢
  generalize hH2 :s₂.heap.push { cls :=.type "list",dict :=none,data :=.seq ([] :List Value).toArray } = H2 at hns₁ hsb₁ ⊢
  have hC :H2.objs.size = s₂.heap.objs.size + 1 :=by rw [← hH2,Heap.size_push]
  have hDC :s₂.heap.objs.size ≠ H2.objs.size :=by rw [hC]; exact Nat.ne_of_lt (Nat.lt_succ_self _)
  have below :∀ b,b < s₂.heap.objs.size → b ≠ H2.objs.size ∧ b ≠ s₂.heap.objs.size :=fun b hb => ⟨by rw [hC]; exact Nat.ne_of_lt (Nat.lt_succ_of_lt hb),Nat.ne_of_lt hb⟩
  have hDf :s₂.heap.objs.size ∉ fp :=fun hm => Nat.lt_irrefl _ (hfp _ hm)
  have hCf :H2.objs.size ∉ fp :=fun hm => by have :=hfp _ hm; rw [hC] at this; exact Nat.lt_irrefl _ (Nat.lt_of_succ_lt this)
  have hLw :L ∉ wr :=fun hm => hLf (W.sub _ hm)
  have old :∀ b o,s₂.heap.get? b = some o → h₁.get? b = some o :=fun b o e => hsb₁.extBut b o (below b (Heap.lt_size e)).1 (Heap.get?_push_of_some _ (hH2 ▸ Heap.get?_push_of_some _ e))
  have hacc :h₁.get? s₂.heap.objs.size = some (lst []) :=hsb₁.extBut _ _ hDC (Heap.get?_push_of_some _ (hH2 ▸ Heap.get?_push_size _ rfl))
  have hst₁ :St 0 h₁ :=W.frame _ _ _ hst fun b _ o e => old b o e
  have fresh :∀ a,s₂.heap.objs.size ≤ a → s₂.heap.get? a = none :=fun a ha => by
    cases e :s₂.heap.get? a with
    | none => rfl
    | some o' => exact absurd (Heap.lt_size e) (Nat.not_lt.mpr ha)
  have fresh₀ :∀ a,s₂.heap.objs.size ≤ a → h₀.get? a = none :=fun a ha => by
    cases e :h₀.get? a with
    | none => rfl
    | some o' => have :=F.keep a o' e; rw [fresh a ha] at this; cases this
  have hD₀ :h₀.get? s₂.heap.objs.size = none :=fresh₀ _ (Nat.le_refl _)
  have hC₀ :h₀.get? H2.objs.size = none :=fresh₀ _ (by rw [hC]; exact Nat.le_succ _)
  have hLlt :L < s₂.heap.objs.size :=F.ns.lt
  have hDL :s₂.heap.objs.size ≠ L :=Ne.symm (below L hLlt).2
  have hCL :H2.objs.size ≠ L :=Ne.symm (below L hLlt).1
  have newsC :∀ p ∈ news,p.1 ≠ H2.objs.size :=fun p hp => (below _ (Heap.lt_size (N p hp).1)).1
  have newsD :∀ p ∈ news,p.1 ≠ s₂.heap.objs.size :=fun p hp => (below _ (Heap.lt_size (N p hp).1)).2
  have wrC :H2.objs.size ∉ wr :=fun hm => hCf (W.sub _ hm)
  have wrD :s₂.heap.objs.size ∉ wr :=fun hm => hDf (W.sub _ hm)
  have old₀ :∀ b o,h₀.get? b = some o → b ∉ wr :=fun b o e hb => by rw [hwr b hb] at e; cases e
  have loop :∀ s₃ :Shared,s₃ = { s₂ with heap :=h₁,toks :=s₂.toks + ([] :List (Str × Value)).length } →
      codeAny (model prog w) A (.compLoop (.ListComp elt [⟨.Tuple [.Name x px,.Name x₂ px₂] tk tp,iter,[],0⟩] scope pos) 0 (.ref I) (.ref s₂.heap.objs.size) (compEnvC scope cl H2.objs.size env))
        (RR (.ref s₂.heap.objs.size) H2.objs.size) s₃ :=by
    (intro s₃; intro rfl)
    refine LCp.codeAny_compLoop_pair
      (fun k s' => ∃ h' tk i ys m',s' = { s₂ with heap :=h',toks :=tk } ∧ i ≤ n ∧ k = n + 1 - i ∧ ys.length = i ∧ (∀ j (hj :j < ys.length),J j ys[j]) ∧ St i h' ∧ Fr h₀ L h' m ∧ h'.Ns H2.objs.size m' ∧ News h₀ L h' ((s₂.heap.objs.size,lst ys) :: news)) ?_ (n + 1)
      ⟨h₁,_,0,[],_,rfl,Nat.zero_le _,rfl,rfl,(fun j hj => nomatch hj),hst₁,F.keeps old,hns₁,fun p hp => ?_⟩
    · (intro k s'; rintro ⟨h',tk,i,ys,m',rfl,hi,rfl,hyl,hys,hst',F',hn',N'⟩)
      have offN :∀ p ∈ (s₂.heap.objs.size,lst ys) :: news,p.1 ∉ wr :=fun p hp => by
        rcases List.mem_cons.mp hp with rfl | hp
        · exact wrD
        · exact off p hp
      by_cases hlt :i < n
      · refine W.item i _ _ _ hlt hst' ?_
        intro T vals h₂ tk₂ hPv hT hMid hk₂
        obtain ⟨v₁,v₂,rfl⟩ :=hPt _ _ hPv
        have hTw :=W.apart _ _ _ hMid
        refine W.go _ _ _ i T _ _ _ hMid ?_
        intro h₃ hst₃ hk₃
        have kk :∀ b o,b ∉ wr → h'.get? b = some o → h₃.get? b = some o :=fun b o hb e => hk₃ b o hb (hk₂ b o hb e)
        have hT₃ :IsTup h₃ T #[v₁,v₂] :=by obtain ⟨o,e,r⟩ :=hT; exact ⟨o,hk₃ _ _ hTw e,r⟩
        refine assign_Tuple_tuple hh hT₃ rfl rfl ?_
        intro h₅ he
        have he' :∀ b o,h₃.get? b = some o → h₅.get? b = some o :=fun b o e => he b o (Nat.ne_of_lt (Heap.lt_size e)) e
        refine assignInOrder_cons (wpAny_assign_Name (wpAny_storeName_local (lookup_relabel_local hx) ((hn'.at' fun o e => kk _ o wrC e).at' fun o e => he' _ o e) ?_ (by simp [compEnvC,relabel,hkind])))
        intro h₆ hn₆ hs₆
        refine assignInOrder_cons (wpAny_assign_Name (wpAny_storeName_local (lookup_relabel_local hx₂) hn₆ ?_ (by simp [compEnvC,relabel,hkind])))
        intro h₇ hn₇ hs₇
        refine assignInOrder_nil ?_
        have old7 :∀ b o,b ≠ H2.objs.size → h₃.get? b = some o → h₇.get? b = some o :=fun b o hb e => hs₇.extBut b o hb (hs₆.extBut b o hb (he' b o e))
        have hst₇ :St (i + 1) h₇ :=W.frame _ _ _ hst₃ fun b hb o e => old7 b o (fun q => hCf (by rw [← q]; exact hb)) e
        obtain ⟨oC,heC,hoC⟩ :=ns_obj hn₇
        have F₃ :Fr h₀ L h₃ m :=⟨F'.ns.at' fun o e => kk _ o hLw e,fun b o e => kk b o (old₀ b o e) (F'.keep b o e),F'.above⟩
        have F₇ :Fr h₀ L h₇ m :=((F₃.keeps he').change hs₆ hCL hC₀).change hs₇ hCL hC₀
        have N₇ :News h₀ L h₇ ((H2.objs.size,oC) :: (s₂.heap.objs.size,lst ys) :: (news ++ PyProof.Rows.ownOf h₀ fp h₇)) :=fun p hp => by
          rcases List.mem_cons.mp hp with rfl | hp
          · exact ⟨heC,hCL,hC₀⟩
          · rcases List.mem_cons.mp hp with rfl | hp
            · have z :=N' _ List.mem_cons_self
              exact ⟨old7 _ _ hDC (kk _ _ wrD z.1),z.2⟩
            · rcases List.mem_append.mp hp with hp | hp
              · have z :=N' p (List.mem_cons_of_mem _ hp)
                exact ⟨old7 _ _ (newsC p hp) (kk _ _ (off p hp) z.1),z.2⟩
              · exact news_ownOf hLf p hp
        refine wpAny_mono (turn i v₁ v₂ H2.objs.size oC s₂.heap.objs.size ys _ h₇ _ (news ++ PyProof.Rows.ownOf h₀ fp h₇) _ hlt hPv hoC (by simp [hxx]) (by simp) (fun p hp => List.mem_append_left _ hp) F₇ N₇) ?_ fun _ _ e => e
        intro y s₈ h₈
        obtain ⟨hJ,h₈,tk₈,rfl,F₈,N₈⟩ :=h₈
        have zC :=(N₈ (H2.objs.size,oC) List.mem_cons_self).1
        have zD :=(N₈ (s₂.heap.objs.size,lst ys) (List.mem_cons_of_mem _ List.mem_cons_self)).1
        have hst₈ :St (i + 1) h₈ :=W.frame _ _ _ hst₇ fun b hb o e => by
          cases hn :h₀.get? b with
          | some o₀ =>
            have :o₀ = o :=by have :=F₇.keep b o₀ hn; rw [e] at this; exact (Option.some.inj this).symm
            exact this ▸ F₈.keep b o₀ hn
          | none => exact (N₈ _ (List.mem_cons_of_mem _ (List.mem_cons_of_mem _ (List.mem_append_right _ (mem_ownOf hb hn e))))).1
        refine append_at (hsz :=by show ys.toArray.size ≤ sizeLine; rw [List.size_toArray,hyl]; exact Nat.le_trans hi hsz) zD ?_
        intro h₉ hs₉ hD₉
        refine ⟨n + 1 - (i + 1),by omega,h₉,tk₈,i + 1,ys ++ [y],_,rfl,hlt,rfl,by rw [List.length_append,List.length_singleton,hyl],fun j hj => ?_,W.frame _ _ _ hst₈ fun b hb o e => hs₉.extBut b o (fun q => hDf (q ▸ hb)) e,F₈.change hs₉ hDL hD₀,
          (hoC.ns zC).sameBut hs₉ (Ne.symm hDC),fun p hp => ?_⟩
        · rcases Nat.lt_or_ge j ys.length with h1 | h1
          · rw [List.getElem_append_left h1]; exact hys j h1
          · have :j = i :=by rw [List.length_append,List.length_singleton] at hj; omega
            subst this
            rw [List.getElem_append_right h1]
            simpa [hyl] using hJ
        · rcases List.mem_cons.mp hp with rfl | hp
          · exact ⟨hD₉.trans (congrArg some (lst_snoc ys y)),hDL,hD₀⟩
          · have z :=N₈ p (List.mem_cons_of_mem _ (List.mem_cons_of_mem _ (List.mem_append_left _ hp)))
            exact ⟨hs₉.extBut _ _ (newsD p hp) z.1,z.2⟩
      · obtain rfl :i = n :=Nat.le_antisymm hi (Nat.not_lt.mp hlt)
        refine W.done _ _ _ hst' ?_
        intro h₂ tk₂ hk₂
        exact hRR _ _ h₂ tk₂ _ ys hyl hys ⟨F'.ns.at' fun o e => hk₂ _ o hLw e,fun b o e => hk₂ b o (old₀ b o e) (F'.keep b o e),F'.above⟩ (fun p hp => ⟨hk₂ _ _ (offN p hp) (N' p hp).1,(N' p hp).2⟩)
          newsD (hn'.at' fun o e => hk₂ _ o wrC e) hC₀ hD₀ hCL hDL (Ne.symm hDC) newsC
    · rcases List.mem_cons.mp hp with rfl | hp
      · exact ⟨hacc,hDL,hD₀⟩
      · exact ⟨old _ _ (N p hp).1,(N p hp).2⟩
  exact codeAny_compStart_list (loop _ rfl) (W.self 0 _ _ _ hst₁ (loop _ rfl))
theorem pair_block {prog :Program} {w :World} {A :Around} {E :Value → Shared → Prop} {h₀ :Heap} {L :Addr} {m :Str → Option Value} {env :Env} {elt iter :Expr} {x x₂ :Str} {px px₂ tp :Pos} {tk :Nat} {scope :Scope} {cl :List (Str × Addr)} {pos :Pos} {s₂ :Shared}
    {I :Addr} {fp wr :List Addr} {n :Nat} {Pt :Nat → Array Value → Prop} {St :Nat → Heap → Prop} {Mid :Nat → Addr → Heap → Prop} {news :List (Addr × Obj)} {RR :Value → Addr → Result → Shared → Prop}
    (W :WalksU prog w A I fp wr n Pt St Mid) (hsz :n ≤ sizeLine) (hPt :∀ i vals,Pt i vals → ∃ a b,vals = #[a,b])
    (hcell :∀ y ∈ scope.names,y.2 ≠ .cell) (hkind :scope.kind = .function) (hx :scope.names.lookup x = some .local) (hx₂ :scope.names.lookup x₂ = some .local) (hxx :x ≠ x₂) (hh :A.handled = none)
    (hst :St 0 s₂.heap) (hfp :∀ b ∈ fp,b < s₂.heap.objs.size) (F :Fr h₀ L s₂.heap m) (N :News h₀ L s₂.heap news) (hLf :L ∉ fp) (hwr :∀ b ∈ wr,h₀.get? b = none) (off :∀ p ∈ news,p.1 ∉ wr)
    (J :Nat → Value → Prop)
    (turn :∀ i v₁ v₂ C oC D ys m₂ h tk news' (E' :Value → Shared → Prop),i < n → Pt i #[v₁,v₂] → NsObj oC m₂ → m₂ x = some v₁ → m₂ x₂ = some v₂ → (∀ p ∈ news,p ∈ news') → Fr h₀ L h m → News h₀ L h ((C,oC) :: (D,lst ys) :: news') →
      wpAny (model prog w) A (eval elt (compEnvC scope cl C env)) (OutL h₀ L m { s₂ with heap :=h,toks :=tk } ((C,oC) :: (D,lst ys) :: news') (J i)) E' { s₂ with heap :=h,toks :=tk })
    (hRR :∀ D C h tk m' ys,ys.length = n → (∀ i (hi :i < ys.length),J i ys[i]) → Fr h₀ L h m → News h₀ L h ((D,lst ys) :: news) → (∀ p ∈ news,p.1 ≠ D) → h.Ns C m' → h₀.get? C = none → h₀.get? D = none → C ≠ L → D ≠ L → C ≠ D → (∀ p ∈ news,p.1 ≠ C) →
      RR (.ref D) C (.ok .next) { s₂ with heap :=h,toks :=tk }) :
    wpAny (model prog w) A (newList []) (fun acc s₃ => wpAny (model prog w) A (newFunctionEnv scope env.globals cl [] env.qual none .none (some env)) (fun cenv s₄ =>
      codeAny (model prog w) A (.compStart (.ListComp elt [⟨.Tuple [.Name x px,.Name x₂ px₂] tk tp,iter,[],0⟩] scope pos) 0 (.ref I) acc { cenv with scope :=relabel scope env }) (RR acc cenv.locals) s₄) E s₃) E s₂ :=pair_block_L prog w A E h₀ L m env elt iter x x₂ px px₂ tp tk scope cl pos s₂ I fp wr n Pt St Mid news RR J W hsz hPt hcell hkind hx hx₂ hxx hh hst hfp F N hLf hwr off turn hRR
noncomputable def PSrc (prog :Program) (w :World) (A :Around) (h₀ :Heap) (L :Addr) (m :Str → Option Value) (env :Env) (elt :Expr) (x x₂ :Str) (scope :Scope) (cl :List (Str × Addr)) (Q :Value → Shared → Prop) (it :Value) (s₂ :Shared) :Prop :=
  ∃ (I :Addr) (fp wr :List Addr) (n :Nat) (Pt :Nat → Array Value → Prop) (St :Nat → Heap → Prop) (Mid :Nat → Addr → Heap → Prop) (news :List (Addr × Obj)) (J :Nat → Value → Prop),
    it = .ref I ∧ WalksU prog w A I fp wr n Pt St Mid ∧ n ≤ sizeLine ∧ (∀ i vals,Pt i vals → ∃ a b,vals = #[a,b]) ∧ St 0 s₂.heap ∧ (∀ b ∈ fp,b < s₂.heap.objs.size) ∧ Fr h₀ L s₂.heap m ∧ News h₀ L s₂.heap news ∧
    L ∉ fp ∧ (∀ b ∈ wr,h₀.get? b = none) ∧ (∀ p ∈ news,p.1 ∉ wr) ∧
    (∀ i v₁ v₂ C oC D ys m₂ h tk news' (E' :Value → Shared → Prop),i < n → Pt i #[v₁,v₂] → NsObj oC m₂ → m₂ x = some v₁ → m₂ x₂ = some v₂ → (∀ p ∈ news,p ∈ news') → Fr h₀ L h m → News h₀ L h ((C,oC) :: (D,lst ys) :: news') →
      wpAny (model prog w) A (eval elt (compEnvC scope cl C env)) (OutL h₀ L m { s₂ with heap :=h,toks :=tk } ((C,oC) :: (D,lst ys) :: news') (J i)) E' { s₂ with heap :=h,toks :=tk }) ∧
    ∀ D h tk ys,ys.length = n → (∀ i (hi :i < ys.length),J i ys[i]) → Fr h₀ L h m → News h₀ L h ((D,lst ys) :: news) → (∀ p ∈ news,p.1 ≠ D) → Q (.ref D) { s₂ with heap :=h,toks :=tk }
noncomputable abbrev ListComp_pair_Q (prog :Program) (w :World) (A :Around) (E :Value → Shared → Prop) (s :Shared) (h₀ :Heap) (L :Addr) (m :Str → Option Value) (env :Env) (elt iter :Expr) (x x₂ :Str) (px px₂ tp :Pos) (tk :Nat) (scope :Scope) (cl :List (Str × Addr)) (pos :Pos) (Q :Value → Shared → Prop) :Prop :=∀ (F₀ :Fr h₀ L s.heap m) (hh :A.handled = none) (hclos :closureFor scope env = pure cl) (hcell :∀ y ∈ scope.names,y.2 ≠ .cell) (hkind :scope.kind = .function) (hnames :∀ y ∈ scope.names,y.2 = .local → scope.names.lookup y.1 = some .local) (hx :scope.names.lookup x = some .local) (hx₂ :scope.names.lookup x₂ = some .local) (hxx :x ≠ x₂) (h :wpAny (model prog w) A (eval iter env) (fun xv s₁ => wpAny (model prog w) A (pyIter xv) (PSrc prog w A h₀ L m env elt x x₂ scope cl Q) E s₁) E s) (hs :∀ x,foldedSetIterable iter env x = pure x :=by intros _; rfl),wpAny (model prog w) A (eval (.ListComp elt [⟨.Tuple [.Name x px,.Name x₂ px₂] tk tp,iter,[],0⟩] scope pos) env) Q E s
theorem ListComp_pair_L :∀ prog w A E s h₀ L m env elt iter x x₂ px px₂ tp tk scope cl pos Q,ListComp_pair_Q prog w A E s h₀ L m env elt iter x x₂ px px₂ tp tk scope cl pos Q :=by
  refine ei8 (h :=?_)
  generalize (ep8 _).1 = prog
  generalize (ep8 _).2.1 = w
  generalize (ep8 _).2.2.1 = A
  generalize (ep8 _).2.2.2.1 = E
  generalize (ep8 _).2.2.2.2.1 = s
  generalize (ep8 _).2.2.2.2.2.1 = h₀
  generalize (ep8 _).2.2.2.2.2.2.1 = L
  generalize (ep8 _).2.2.2.2.2.2.2 = m
  refine ei8 (h :=?_)
  generalize (ep8 _).1 = env
  generalize (ep8 _).2.1 = elt
  generalize (ep8 _).2.2.1 = iter
  generalize (ep8 _).2.2.2.1 = x
  generalize (ep8 _).2.2.2.2.1 = x₂
  generalize (ep8 _).2.2.2.2.2.1 = px
  generalize (ep8 _).2.2.2.2.2.2.1 = px₂
  generalize (ep8 _).2.2.2.2.2.2.2 = tp
  refine ei5 (h :=?_)
  generalize (ep5 _).1 = tk
  generalize (ep5 _).2.1 = scope
  generalize (ep5 _).2.2.1 = cl
  generalize (ep5 _).2.2.2.1 = pos
  generalize (ep5 _).2.2.2.2 = Q
  delta ListComp_pair_Q
  intros F₀ hh hclos hcell hkind hnames hx hx₂ hxx h hs
  rw [eval_ListComp]
  refine wpAny_comprehension_free (use :=none) rfl hs hclos hkind hnames (wpAny_mono h (fun xv s₁ h₁ => wpAny_mono h₁ ?_ fun _ _ e => e) fun _ _ e => e)
  intros it s₂ h₂
  obtain ⟨I,fp,wr,n,Pt,St,Mid,news,J,rfl,W,hsz,hPt,hst,hfp,F,N,hLf,hwr,off,turn,fin⟩ :_ :=h₂
  refine pair_block W hsz hPt hcell hkind hx hx₂ hxx hh hst hfp F N hLf hwr off J turn ?_
  intros D C h tk m' ys hlen hys F' N' o1 hn hC₀ hD₀ hCL hDL hCD offC
  refine ⟨m',hn,fun h'' hs'' => fin D h'' tk ys hlen hys (F'.change hs'' hCL hC₀) ?_ o1⟩
  intros p hp
  refine ⟨hs''.extBut _ _ ?_ (N' p hp).1,(N' p hp).2⟩
  rcases List.mem_cons.mp hp with rfl | hp
  · exact Ne.symm hCD
  · exact offC p hp
theorem ListComp_pair {prog :Program} {w :World} {A :Around} {E :Value → Shared → Prop} {s :Shared} {h₀ :Heap} {L :Addr} {m :Str → Option Value} {env :Env} {elt iter :Expr} {x x₂ :Str} {px px₂ tp :Pos} {tk :Nat} {scope :Scope} {cl :List (Str × Addr)} {pos :Pos} {Q :Value → Shared → Prop}
    (F₀ :Fr h₀ L s.heap m) (hh :A.handled = none)
    (hclos :closureFor scope env = pure cl) (hcell :∀ y ∈ scope.names,y.2 ≠ .cell) (hkind :scope.kind = .function)
    (hnames :∀ y ∈ scope.names,y.2 = .local → scope.names.lookup y.1 = some .local) (hx :scope.names.lookup x = some .local) (hx₂ :scope.names.lookup x₂ = some .local) (hxx :x ≠ x₂)
    (h :wpAny (model prog w) A (eval iter env) (fun xv s₁ => wpAny (model prog w) A (pyIter xv) (PSrc prog w A h₀ L m env elt x x₂ scope cl Q) E s₁) E s)
    (hs :∀ x,foldedSetIterable iter env x = pure x :=by intros _; rfl) :
    wpAny (model prog w) A (eval (.ListComp elt [⟨.Tuple [.Name x px,.Name x₂ px₂] tk tp,iter,[],0⟩] scope pos) env) Q E s :=ListComp_pair_L prog w A E s h₀ L m env elt iter x x₂ px px₂ tp tk scope cl pos Q F₀ hh hclos hcell hkind hnames hx hx₂ hxx h hs
theorem paired_of {α β :Type} {F :α → β → Prop} :∀ {l₁ :List α} {l₂ :List β},l₂.length = l₁.length → (∀ i (h1 :i < l₁.length) (h2 :i < l₂.length),F l₁[i] l₂[i]) → Paired F l₁ l₂
  | [],[],_,_ => .nil
  | [],_ :: _,e,_ => by simp at e
  | _ :: _,[],e,_ => by simp at e
  | a :: l₁,b :: l₂,e,h => .cons (h 0 (by simp) (by simp)) (paired_of (by simpa using e) fun i h1 h2 => h (i + 1) (by simpa using h1) (by simpa using h2))
noncomputable abbrev zip_src_Q (prog :Program) (w :World) (A :Around) (E :Value → Shared → Prop) (s :Shared) (h₀ :Heap) (L :Addr) (m :Str → Option Value) (env :Env) (elt :Expr) (x x₂ :Str) (scope :Scope) (cl :List (Str × Addr)) (Q :Value → Shared → Prop) (news :List (Addr × Obj)) (l1 l2 n1 n2 :Nat) (us ws :List Value) (as bs :List Int) (J :Int × Int → Value → Prop) :Prop :=∀ (hh :A.handled = none) (F :Fr h₀ L s.heap m) (N :News h₀ L s.heap news) (m1 :(l1,listOf us.toArray n1) ∈ news) (m2 :(l2,listOf ws.toArray n2) ∈ news) (hI1 :IntsAre us as) (hI2 :IntsAre ws bs) (hsz :as.length ≤ sizeLine) (turn :∀ a b t u C oC D ys m₂ (s' :Shared) news' (E' :Value → Shared → Prop),a ∈ as → b ∈ bs → NsObj oC m₂ → m₂ x = some (.int a t) → m₂ x₂ = some (.int b u) → (∀ p ∈ news,p ∈ news') → Fr h₀ L s'.heap m → News h₀ L s'.heap ((C,oC) :: (D,lst ys) :: news') →
      wpAny (model prog w) A (eval elt (compEnvC scope cl C env)) (OutL h₀ L m s' ((C,oC) :: (D,lst ys) :: news') (J (a,b))) E' s') (fin :∀ D h tk ys,Paired J (as.zip bs) ys → Fr h₀ L h m → News h₀ L h ((D,lst ys) :: news) → (∀ p ∈ news,p.1 ≠ D) → Q (.ref D) { s with heap :=h,toks :=tk }),wpAny (model prog w) A (call (.type "zip") [.ref l1,.ref l2]) (fun xv s₁ => wpAny (model prog w) A (pyIter xv) (PSrc prog w A h₀ L m env elt x x₂ scope cl Q) E s₁) E s
theorem zip_src_L :∀ prog w A E s h₀ L m env elt x x₂ scope cl Q news l1 l2 n1 n2 us ws as bs J,zip_src_Q prog w A E s h₀ L m env elt x x₂ scope cl Q news l1 l2 n1 n2 us ws as bs J :=by
  intro prog w A E s h₀ L m env elt x x₂ scope cl Q news l1 l2 n1 n2 us ws as bs J
  delta zip_src_Q
  intro hh F N m1 m2 hI1 hI2 hsz turn fin
  have hl1 :s.heap.IsList l1 us.toArray :=⟨_,(N _ m1).1,rfl,_,rfl⟩
  have hl2 :s.heap.IsList l2 ws.toArray :=⟨_,(N _ m2).1,rfl,_,rfl⟩
  refine zip_rows F hl1 hl2 ?_
  intro h' z TI TO i1 i2 D st F' kp gz gTO gi1 gi2 hL
  refine wpAny_pyIter_zip st.1 ?_
  have e1 :=hI1.length
  have e2 :=hI2.length
  have fresh :∀ b,s.heap.objs.size ≤ b → s.heap.get? b = none :=fun a ha => by
    cases e :s.heap.get? a with
    | none => rfl
    | some o' => exact absurd (Heap.lt_size e) (Nat.not_lt.mpr ha)
  have fresh₀ :∀ b,s.heap.objs.size ≤ b → h₀.get? b = none :=fun b hb => by
    cases e :h₀.get? b with
    | none => rfl
    | some o => have :=F.keep b o e; rw [fresh b hb] at this; cases this
  have W :=(WalksT.zip2 (prog :=prog) (w :=w) hh z TI TO i1 i2 l1 l2 D us.toArray ws.toArray).toU
  have hn :min us.toArray.size ws.toArray.size = (as.zip bs).length :=by simp [e1,e2]
  rw [hn] at W
  obtain ⟨sz,sTI,⟨pa,pb,sTO⟩,si1,si2,sl1,sl2⟩ :=id st
  refine ⟨z,_,_,(as.zip bs).length,_,_,_,news,(fun i y => ∀ (h :i < (as.zip bs).length),J (as.zip bs)[i] y),rfl,W,?_,?_,st,?_,F',fun p hp => ⟨kp _ _ (N p hp).1,(N p hp).2⟩,?_,?_,?_,?_,?_⟩
  · rw [List.length_zip]; omega
  · (intro i vals; rintro ⟨a,b,_,_,rfl⟩); exact ⟨a,b,rfl⟩
  · intro b hb
    simp only [List.mem_cons,List.not_mem_nil,or_false] at hb
    rcases hb with rfl | rfl | rfl | rfl | rfl | rfl | rfl
    · exact Heap.lt_size sz
    · exact Heap.lt_size sTI
    · exact Heap.lt_size sTO
    · obtain ⟨_,e,_⟩ :=si1; exact Heap.lt_size e
    · obtain ⟨_,e,_⟩ :=si2; exact Heap.lt_size e
    · obtain ⟨_,e,_⟩ :=sl1; exact Heap.lt_size e
    · obtain ⟨_,e,_⟩ :=sl2; exact Heap.lt_size e
  · intro hm
    obtain ⟨oL,es,ep,eL,dL,_⟩ :=F'.ns
    simp only [List.mem_cons,List.not_mem_nil,or_false] at hm
    rcases hm with e | e | e | e | e | e | e
    · exact absurd hL.1 (by rw [e]; exact Nat.lt_irrefl _)
    · rw [e] at eL
      have q :h'.get? TI = some _ :=sTI
      rw [eL] at q; cases q; cases dL
    · exact absurd hL.2.1 (by rw [e]; exact Nat.lt_irrefl _)
    · exact absurd hL.2.2.1 (by rw [e]; exact Nat.lt_irrefl _)
    · exact absurd hL.2.2.2 (by rw [e]; exact Nat.lt_irrefl _)
    · exact (N _ m1).2.1 e.symm
    · exact (N _ m2).2.1 e.symm
  · intro b hb
    simp only [List.mem_cons,List.not_mem_nil,or_false] at hb
    rcases hb with rfl | rfl | rfl | rfl
    · exact fresh₀ _ gz
    · exact fresh₀ _ gTO
    · exact fresh₀ _ gi1
    · exact fresh₀ _ gi2
  · intro p hp hm
    have hlt :=Heap.lt_size (N p hp).1
    simp only [List.mem_cons,List.not_mem_nil,or_false] at hm
    rcases hm with e | e | e | e <;> rw [e] at hlt
    · exact absurd gz (Nat.not_le.mpr hlt)
    · exact absurd gTO (Nat.not_le.mpr hlt)
    · exact absurd gi1 (Nat.not_le.mpr hlt)
    · exact absurd gi2 (Nat.not_le.mpr hlt)
  · (intro i v₁ v₂ C oC D ys m₂ h tk news' E' hi; rintro ⟨a,b,ha,hb,hv⟩; intro hC h1 h2 hs F'' N'')
    have hi1 :i < as.length :=by rw [List.length_zip] at hi; omega
    have hi2 :i < bs.length :=by rw [List.length_zip] at hi; omega
    obtain ⟨t,ht⟩ :=hI1.get i as[i] (List.getElem?_eq_getElem hi1)
    obtain ⟨u,hu⟩ :=hI2.get i bs[i] (List.getElem?_eq_getElem hi2)
    have ea :a = .int as[i] t :=by
      have :us[i]? = some a :=by simpa using ha
      rw [ht] at this; exact (Option.some.inj this).symm
    have eb :b = .int bs[i] u :=by
      have :ws[i]? = some b :=by simpa using hb
      rw [hu] at this; exact (Option.some.inj this).symm
    subst ea eb
    have hv' :v₁ = .int as[i] t ∧ v₂ = .int bs[i] u :=by simpa using hv
    obtain ⟨rfl,rfl⟩ :=hv'
    refine wpAny_mono (turn as[i] bs[i] t u C oC D ys m₂ { s with heap :=h,toks :=tk } news' E' (List.getElem_mem hi1) (List.getElem_mem hi2) hC h1 h2 hs F'' N'') ?_ fun _ _ e => e
    intro y s'' hy
    obtain ⟨hJ,h₃,tk₃,rfl,F₃,N₃⟩ :=hy
    refine outL F₃ N₃ ?_
    intro hz
    rw [List.getElem_zip]
    exact hJ
  · intro D h tk ys hlen hys F'' N'' o1
    refine fin D h tk ys (paired_of hlen fun i h1 h2 => hys i h2 h1) F'' N'' o1
theorem zip_src {prog :Program} {w :World} {A :Around} {E :Value → Shared → Prop} {s :Shared} {h₀ :Heap} {L :Addr} {m :Str → Option Value} {env :Env} {elt :Expr} {x x₂ :Str} {scope :Scope} {cl :List (Str × Addr)} {Q :Value → Shared → Prop}
    {news :List (Addr × Obj)} {l1 l2 n1 n2 :Nat} {us ws :List Value} {as bs :List Int} (hh :A.handled = none) (F :Fr h₀ L s.heap m) (N :News h₀ L s.heap news)
    (m1 :(l1,listOf us.toArray n1) ∈ news) (m2 :(l2,listOf ws.toArray n2) ∈ news) (hI1 :IntsAre us as) (hI2 :IntsAre ws bs) (hsz :as.length ≤ sizeLine) (J :Int × Int → Value → Prop)
    (turn :∀ a b t u C oC D ys m₂ (s' :Shared) news' (E' :Value → Shared → Prop),a ∈ as → b ∈ bs → NsObj oC m₂ → m₂ x = some (.int a t) → m₂ x₂ = some (.int b u) → (∀ p ∈ news,p ∈ news') → Fr h₀ L s'.heap m → News h₀ L s'.heap ((C,oC) :: (D,lst ys) :: news') →
      wpAny (model prog w) A (eval elt (compEnvC scope cl C env)) (OutL h₀ L m s' ((C,oC) :: (D,lst ys) :: news') (J (a,b))) E' s')
    (fin :∀ D h tk ys,Paired J (as.zip bs) ys → Fr h₀ L h m → News h₀ L h ((D,lst ys) :: news) → (∀ p ∈ news,p.1 ≠ D) → Q (.ref D) { s with heap :=h,toks :=tk }) :
    wpAny (model prog w) A (call (.type "zip") [.ref l1,.ref l2]) (fun xv s₁ => wpAny (model prog w) A (pyIter xv) (PSrc prog w A h₀ L m env elt x x₂ scope cl Q) E s₁) E s :=zip_src_L prog w A E s h₀ L m env elt x x₂ scope cl Q news l1 l2 n1 n2 us ws as bs J hh F N m1 m2 hI1 hI2 hsz turn fin
end
end
section
section
local macro_rules | `(tactic| kst_in) => `(tactic| k_extra "kst_in4")
theorem kw10 :True :=by
  (k_with "kst_in4" => ((intros q9 hq9; first | exact Nat.ne_of_lt ((by assumption :∀ p ∈ _,p.1 < _) q9 hq9) | exact off1_ne (by assumption) q9 hq9)))
  trivial
structure EA where
  e :Nat
  ed :Nat
  rl :Nat
  ml :Nat
  k1 :Nat
  k2 :Nat
  k3 :Nat
  k4 :Nat
  k5 :Nat
  k6 :Nat
  t1 :Nat
  t3 :Nat
  t4 :Nat
  t5 :Nat
  rn :Nat
  mn :Nat
deriving Inhabited
noncomputable abbrev entD (P :Params) (x :EA) (u ex sp ct :Int) :List DictEntry :=
  [⟨PyData.keyHash P (Str.ofString "user"),.str (Str.ofString "user") x.k1,.int u x.t1⟩,
   ⟨PyData.keyHash P (Str.ofString "raw"),.str (Str.ofString "raw") x.k2,.ref x.rl⟩,
   ⟨PyData.keyHash P (Str.ofString "extent"),.str (Str.ofString "extent") x.k3,.int ex x.t3⟩,
   ⟨PyData.keyHash P (Str.ofString "spare"),.str (Str.ofString "spare") x.k4,.int sp x.t4⟩,
   ⟨PyData.keyHash P (Str.ofString "count"),.str (Str.ofString "count") x.k5,.int ct x.t5⟩,
   ⟨PyData.keyHash P (Str.ofString "map"),.str (Str.ofString "map") x.k6,.ref x.ml⟩]
section
variable (w dp un fr gd s mg mb G news)
noncomputable abbrev Entry_ok_Q (g :Heap) (L :Addr) (m :Str → Option Value) (u ex :Int) (t t' :Tok) (l n :Nat) (ws :List Value) (rs :List Int) (Q E :Value → Shared → Prop) :Prop :=∀ (k :∀ (x :EA) h' tk,Fr g L h' m → News g L h' ((x.ml,listOf [].toArray x.mn) :: (x.rl,listOf ws.toArray x.rn) :: (x.e,instObj 74 x.ed) :: (x.ed,dictOf (entD w.params x u ex 0 0) 6) :: news) → (∀ p ∈ news,p.1 < x.ed) → x.ed < x.e → x.e < x.rl → x.rl < x.ml → Q (.ref x.e) { s with heap :=h',toks :=tk }) (gh :GH w mg mb G) (sg :Stay G g) (X :(Mine.hd.heap_39 w.params).In g) (F :Fr g L s.heap m) (N :News g L s.heap news) (lv :Lv dp un 3) (m1 :(l,listOf ws.toArray n) ∈ news) (hI :IntsAre ws rs) (hl :rs.length = 11),wpAny (model rw_tg0048_01.row.prog w) (AR dp un fr gd) (call (.ref 74) [.int u t,.ref l,.int ex t']) Q E s
end
theorem Entry_ok_L :∀ w dp un fr gd s mg mb G news g L m u ex t t' l n ws rs Q E,Entry_ok_Q w dp un fr gd s mg mb G news g L m u ex t t' l n ws rs Q E :=by
  intro w dp un fr gd s mg mb G news g L m u ex t t' l n ws rs Q E
  delta Entry_ok_Q
  intro k gh sg X F N lv m1 hI hl
  have e9 :=hI.length
  k_dflt (refine call_cls F X N (by k_is) (by k_is) (by k_is) ?_)
  intro x dx ho Fo No lo1 lo2
  k_lt2 lo2
  k_dflt (refine' enterF gh (G :=G) (news :=(x,instObj 74 dx) :: (dx,dictOf [] 0) :: news) ?ks (HN.of No sg) ?k8 ?k6 ?k7 ?k9 ?kB ?_ ?c2 ?c3 ?c4 ?c5; (case k6 => k_is); (case k7 => k_is); (case ks => exact fun b o e => Fo.keep _ _ (sg _ _ e)); (case k8 => (rw [depth_under_make]; have :=lv.1; show dp + 1 < 1000; omega)); (case k9 => exact BindsTo.of_eq rfl); (case c5 => decide); (case kB => exact locs rfl); (case c2 => exact rfl); (case c3 => exact rfl); (case c4 => exact rfl); k_whole; intro g' L' h' tk' loose' mean' F' N' X' T' sg' kp' bk' l1; (first | (with_unfolding_all have F'3 :Fr _ _ _ (frm [(_,_)]) :=F') | (with_unfolding_all have F'3 :Fr _ _ _ (frm [(_,_),(_,_)]) :=F') | (with_unfolding_all have F'3 :Fr _ _ _ (frm [(_,_),(_,_),(_,_)]) :=F') | (with_unfolding_all have F'3 :Fr _ _ _ (frm [(_,_),(_,_),(_,_),(_,_)]) :=F') | (with_unfolding_all have F'3 :Fr _ _ _ (frm [(_,_),(_,_),(_,_),(_,_),(_,_)]) :=F') | (with_unfolding_all have F'3 :Fr _ _ _ (frm [(_,_),(_,_),(_,_),(_,_),(_,_),(_,_)]) :=F')); (clear F'); (try dsimp only [frm] at F'3); (try dsimp only); (try k_fold))
  k_steps
  obtain ⟨F3,N3⟩ :=leave_frame Fo No (by k_asm) (by k_asm) kp'
  refine ⟨rfl,?_⟩
  exact k ⟨x,dx,_,_,_,_,_,_,_,_,_,_,_,_,_,_⟩ _ _ F3 N3 (by assumption) lo2 (by dsimp only; first | omega | exact lt_head (by assumption)) (by dsimp only; first | omega | exact lt_head (by assumption))
theorem Entry_ok {g :Heap} {L :Addr} {m :Str → Option Value} {u ex :Int} {t t' :Tok} {l n :Nat} {ws :List Value} {rs :List Int} {Q E :Value → Shared → Prop}
    (k :∀ (x :EA) h' tk,Fr g L h' m → News g L h' ((x.ml,listOf [].toArray x.mn) :: (x.rl,listOf ws.toArray x.rn) :: (x.e,instObj 74 x.ed) :: (x.ed,dictOf (entD w.params x u ex 0 0) 6) :: news) → (∀ p ∈ news,p.1 < x.ed) → x.ed < x.e → x.e < x.rl → x.rl < x.ml → Q (.ref x.e) { s with heap :=h',toks :=tk })
    (gh :GH w mg mb G) (sg :Stay G g) (X :(Mine.hd.heap_39 w.params).In g) (F :Fr g L s.heap m) (N :News g L s.heap news) (lv :Lv dp un 3) (m1 :(l,listOf ws.toArray n) ∈ news) (hI :IntsAre ws rs) (hl :rs.length = 11) :
    wpAny (model rw_tg0048_01.row.prog w) (AR dp un fr gd) (call (.ref 74) [.int u t,.ref l,.int ex t']) Q E s :=Entry_ok_L w dp un fr gd s mg mb G news g L m u ex t t' l n ws rs Q E k gh sg X F N lv m1 hI hl
end
end
section
section
structure Ent where
  user :Int
  raw :List Int
  ext :Int
  sp :Int
  ct :Int
  map :List Int
deriving Inhabited
noncomputable abbrev eNews (P :Params) (x :EA) (t :Ent) (ws ms :List Value) :List (Addr × Obj) :=
  [(x.ml,listOf ms.toArray x.mn),(x.rl,listOf ws.toArray x.rn),(x.e,instObj 74 x.ed),(x.ed,dictOf (entD P x t.user t.ext t.sp t.ct) 6)]
noncomputable abbrev EOrd (x :EA) :Prop :=x.ed < x.e ∧ x.e < x.rl ∧ @Ne Nat x.ml x.ed ∧ @Ne Nat x.ml x.e ∧ @Ne Nat x.ml x.rl
noncomputable abbrev IsEnt (P :Params) (t :Ent) (r :Value) (tl :List (Addr × Obj)) :Prop :=∃ x ws ms,r = .ref x.e ∧ tl = eNews P x t ws ms ∧ IntsAre ws t.raw ∧ IntsAre ms t.map ∧ EOrd x
theorem useE {M :Model} {A :Around} {E :Value → Shared → Prop} {s :Shared} {g :Heap} {L :Addr} {m :Str → Option Value} {news :List (Addr × Obj)} {t :Sem Value} {Q :Value → Shared → Prop} {P :Params} {e :Ent} (spec :wpAny M A t (RetG s news (IsEnt P e)) (fun _ _ => False) s) (F :Fr g L s.heap m) (N :News g L s.heap news)
    (k :∀ (x :EA) ws ms h' tk,Fr g L h' m → News g L h' ((x.ml,listOf ms.toArray x.mn) :: (x.rl,listOf ws.toArray x.rn) :: (x.e,instObj 74 x.ed) :: (x.ed,dictOf (entD P x e.user e.ext e.sp e.ct) 6) :: news) → IntsAre ws e.raw → IntsAre ms e.map → EOrd x → (∀ p ∈ eNews P x e ws ms,∀ q ∈ news,q.1 ≠ p.1) → Q (.ref x.e) { s with heap :=h',toks :=tk }) :wpAny M A t Q E s :=
  useG spec F N fun r tl h' tk hP F' N' lt => by rcases hP with ⟨x,ws,ms,e1,e2,h1,h2,h3⟩; subst e1; subst e2; exact k x ws ms h' tk F' N' h1 h2 h3 lt
theorem retE {g h' :Heap} {L :Addr} {m :Str → Option Value} {news' :List (Addr × Obj)} {s :Shared} {P :Params} {t :Ent} {tk :Nat} {e ed rl ml k1 k2 k3 k4 k5 k6 t1 t3 t4 t5 rn mn :Nat} {ws ms :List Value}
    (F :Fr g L h' m) (N :News g L h' news') (kp :∀ b o,s.heap.get? b = some o → b ∉ news.map (·.1) → g.get? b = some o) (hn :HN G s.heap news)
    (hs :∀ p ∈ news,p ∈ news') (r3 :(e,instObj 74 ed) ∈ news')
    (r4 :(ed,dictOf [⟨PyData.keyHash P (Str.ofString "user"),.str (Str.ofString "user") k1,.int t.user t1⟩,⟨PyData.keyHash P (Str.ofString "raw"),.str (Str.ofString "raw") k2,.ref rl⟩,⟨PyData.keyHash P (Str.ofString "extent"),.str (Str.ofString "extent") k3,.int t.ext t3⟩,
      ⟨PyData.keyHash P (Str.ofString "spare"),.str (Str.ofString "spare") k4,.int t.sp t4⟩,⟨PyData.keyHash P (Str.ofString "count"),.str (Str.ofString "count") k5,.int t.ct t5⟩,⟨PyData.keyHash P (Str.ofString "map"),.str (Str.ofString "map") k6,.ref ml⟩] 6) ∈ news')
    (r2 :(rl,listOf ws.toArray rn) ∈ news') (r1 :(ml,listOf ms.toArray mn) ∈ news')
    (hlt :∀ q ∈ news,q.1 < ed) (o1 :ed < e) (o2 :e < rl) (o3 :@Ne Nat ml ed ∧ @Ne Nat ml e ∧ @Ne Nat ml rl) (o4 :∀ q ∈ news,q.1 ≠ ml) (h1 :IntsAre ws t.raw) (h2 :IntsAre ms t.map) :
    RetG s news (IsEnt P t) (.ref e) { s with heap :=h',toks :=tk } :=by
  have ht :∀ p ∈ eNews P ⟨e,ed,rl,ml,k1,k2,k3,k4,k5,k6,t1,t3,t4,t5,rn,mn⟩ t ws ms,p ∈ news' :=fun p hp => by
    simp only [List.mem_cons,List.not_mem_nil,or_false] at hp
    rcases hp with rfl | rfl | rfl | rfl <;> assumption
  refine retG _ F N kp hn hs ht (fun p hp q hq => ?_) ⟨⟨e,ed,rl,ml,k1,k2,k3,k4,k5,k6,t1,t3,t4,t5,rn,mn⟩,ws,ms,rfl,rfl,h1,h2,o1,o2,o3⟩
  have :=ltN (hlt q hq)
  simp only [List.mem_cons,List.not_mem_nil,or_false] at hp
  rcases hp with rfl | rfl | rfl | rfl
  · exact o4 q hq
  all_goals (refine neN ?_; dsimp only; omega)
theorem kw11 :True :=by
  (k_with "q3" => ((refine useI (map_slots_ok (by assumption) (by ktr_unf) (by ktr_units) (by ktr_room) (by tb_rel)) (by k_asm) (by k_asm) ?_; intro t9 h9 tk9 F9 N9; (try dsimp only); (try k_fold))))
  (k_with "mcall ref" => (((with_reducible show wpAny _ _ (call (.ref 85) _) _ _ _); first | k_extra "q3" | k_dflt (k_extra "q3"))))
  (k_with "mcall ref" => (k_dflt ((refine' Entry_ok ?_ (by assumption) (by assumption) (by assumption) (by k_asm) (by k_asm) (by ktr_room) (by k_mem) (by assumption) (by first | assumption | omega)); intro x' h' tk' F' N' l1 l2 l3 l4; (try dsimp only); (try k_fold))))
  trivial
section
variable (w dp un fr gd s mg mb G news a vs D)
noncomputable abbrev new_entry_ok_Q (u ex :Int) (t t' :Tok) (l n :Nat) (ws :List Value) (rs :List Int) :Prop :=∀ (gh :GH w mg mb G) (st :Stay G s.heap) (hn :HN G s.heap news) (lv :Lv dp un 4) (dm :DM w.params a vs D news) (q1 :(l,listOf ws.toArray n) ∈ news) (qI :IntsAre ws rs) (ql :rs.length = 11),wpAny (model rw_tg0048_01.row.prog w) (AR dp un fr gd) (call (.ref 120) [.ref a.d,.int u t,.ref l,.int ex t']) (RetG s news (IsEnt w.params ⟨u,rs,ex,0,0,List.replicate 16 0⟩)) (fun _ _ => False) s
end
theorem new_entry_ok_L :∀ w dp un fr gd s mg mb G news a vs D u ex t t' l n ws rs,new_entry_ok_Q w dp un fr gd s mg mb G news a vs D u ex t t' l n ws rs :=by
  intro w dp un fr gd s mg mb G news a vs D u ex t t' l n ws rs
  delta new_entry_ok_Q
  intro gh st hn lv dm q1 qI ql
  have dm0 :=dm
  obtain ⟨m1,m2,m3,m4,hI,hl⟩ :=dm
  cell_enter
  k_steps
  k_dflt (refine' retE ?F ?N ?kp ?hn ?hs ?r3 ?r4 ?r2 ?r1 ?hlt ?o1 ?o2 ?o3 ?o4 ?h1 ?h2; (case F => k_asm); (case N => k_asm); (case kp => assumption); (case hn => assumption); (case hs => ktr_rel); (case r3 => k_mem); (case r4 => k_mem); (case r2 => k_mem); (case r1 => k_mem); (case hlt => first | assumption | (intro q9 hq9; exact (by assumption :∀ p ∈ _,p.1 < _) q9 (by k_mem))); (case o1 => first | assumption | omega); (case o2 => first | assumption | omega); (case o3 => omega); (case o4 => kst_in))
  · assumption
  · exact ints_rep 0 _ 16
theorem new_entry_ok {u ex :Int} {t t' :Tok} {l n :Nat} {ws :List Value} {rs :List Int} :new_entry_ok_Q w dp un fr gd s mg mb G news a vs D u ex t t' l n ws rs :=new_entry_ok_L w dp un fr gd s mg mb G news a vs D u ex t t' l n ws rs
section
variable (w dp un fr gd s mg mb G news a vs D)
noncomputable abbrev map_of_ok_Q (l n :Nat) (ws :List Value) (os :List Int) :Prop :=∀ (gh :GH w mg mb G) (st :Stay G s.heap) (hn :HN G s.heap news) (lv :Lv dp un 2) (dm :DM w.params a vs D news) (q1 :(l,listOf ws.toArray n) ∈ news) (qI :IntsAre ws os) (ql :os.length = 32),wpAny (model rw_tg0048_01.row.prog w) (AR dp un fr gd) (call (.ref 193) [.ref a.d,.ref l]) (RetG s news (IsIL (os.drop 16))) (fun _ _ => False) s
end
theorem map_of_ok_L :∀ w dp un fr gd s mg mb G news a vs D l n ws os,map_of_ok_Q w dp un fr gd s mg mb G news a vs D l n ws os :=by
  intro w dp un fr gd s mg mb G news a vs D l n ws os
  delta map_of_ok_Q
  intro gh st hn lv dm q1 qI ql
  have dm0 :=dm
  obtain ⟨m1,m2,m3,m4,hI,hl⟩ :=dm
  have e9 :=qI.length
  ktr_enter
  k_steps
  ktr_step
  have e1 :min (Int.toNat 32) os.length - Int.toNat 16 = 16 :=by rw [ql]; decide
  rw [show os.drop 16 = (os.drop (Int.toNat 16)).take (min (Int.toNat 32) os.length - Int.toNat 16) from by rw [e1]; exact (List.take_of_length_le (by rw [List.length_drop,ql]; decide)).symm]
  assumption
theorem map_of_ok {l n :Nat} {ws :List Value} {os :List Int} :map_of_ok_Q w dp un fr gd s mg mb G news a vs D l n ws os :=map_of_ok_L w dp un fr gd s mg mb G news a vs D l n ws os
noncomputable def entOf (os :List Int) :Ent :=⟨os.getD 0 0,(os.drop 1).take 11,os.getD 14 0 * 32 + Int.fmod (os.getD 12 0) 32,os.getD 13 0,os.getD 15 0,os.drop 16⟩
theorem kw12 :True :=by
  (k_with "q4" => ((refine useIL (map_of_ok (by assumption) (by ktr_unf) (by ktr_units) (by ktr_room) (by tb_rel) (by k_mem) (by assumption) (by assumption)) (by k_asm) (by k_asm) ?_; kst_facts)))
  (k_with "mcall ref" => (((with_reducible show wpAny _ _ (call (.ref 193) _) _ _ _); first | k_extra "q4" | k_dflt (k_extra "q4"))))
  trivial
section
variable (w dp un fr gd s mg mb G news a vs D)
noncomputable abbrev entry_from_none_Q (l n :Nat) (ws :List Value) (os :List Int) :Prop :=∀ (gh :GH w mg mb G) (st :Stay G s.heap) (hn :HN G s.heap news) (lv :Lv dp un 4) (dm :DM w.params a vs D news) (q1 :(l,listOf ws.toArray n) ∈ news) (qI :IntsAre ws os) (ql :os.length = 32) (h0 :os.getD 0 0 = 229),wpAny (model rw_tg0048_01.row.prog w) (AR dp un fr gd) (call (.ref 134) [.ref a.d,.ref l]) (RetG s news IsN) (fun _ _ => False) s
end
theorem entry_from_none_L :∀ w dp un fr gd s mg mb G news a vs D l n ws os,entry_from_none_Q w dp un fr gd s mg mb G news a vs D l n ws os :=by
  intro w dp un fr gd s mg mb G news a vs D l n ws os
  delta entry_from_none_Q
  intro gh st hn lv dm q1 qI ql h0
  have e9 :=qI.length
  cell_enter
  k_steps
  all_goals (try dsimp only)
  all_goals first
    | exact absurd h0 (by assumption)
    | (tb_start; exact ⟨rfl,rfl⟩)
theorem entry_from_none {l n :Nat} {ws :List Value} {os :List Int} :entry_from_none_Q w dp un fr gd s mg mb G news a vs D l n ws os :=entry_from_none_L w dp un fr gd s mg mb G news a vs D l n ws os
section
variable (w dp un fr gd s mg mb G news a vs D)
noncomputable abbrev entry_from_some_Q (l n :Nat) (ws :List Value) (os :List Int) :Prop :=∀ (gh :GH w mg mb G) (st :Stay G s.heap) (hn :HN G s.heap news) (lv :Lv dp un 5) (dm :DM w.params a vs D news) (q1 :(l,listOf ws.toArray n) ∈ news) (qI :IntsAre ws os) (ql :os.length = 32) (h0 :os.getD 0 0 ≠ 229),wpAny (model rw_tg0048_01.row.prog w) (AR dp un fr gd) (call (.ref 134) [.ref a.d,.ref l]) (RetG s news (IsEnt w.params (entOf os))) (fun _ _ => False) s
end
theorem entry_from_some_L :∀ w dp un fr gd s mg mb G news a vs D l n ws os,entry_from_some_Q w dp un fr gd s mg mb G news a vs D l n ws os :=by
  intro w dp un fr gd s mg mb G news a vs D l n ws os
  delta entry_from_some_Q
  intro gh st hn lv dm q1 qI ql h0
  have dm0 :=dm
  obtain ⟨m1,m2,m3,m4,hI,hl⟩ :=dm
  have e9 :=qI.length
  cell_enter
  k_steps
  all_goals (try dsimp only)
  all_goals first
    | exact absurd (by assumption) h0
    | kst_p
  · have e1 :min (1 + 11 :Int).toNat os.length - 1 = 11 :=by rw [ql]; decide
    show IntsAre _ ((os.drop 1).take 11)
    rw [← e1]
    assumption
  · assumption
theorem entry_from_some {l n :Nat} {ws :List Value} {os :List Int} :entry_from_some_Q w dp un fr gd s mg mb G news a vs D l n ws os :=entry_from_some_L w dp un fr gd s mg mb G news a vs D l n ws os
end
theorem kw13 :True :=by
  (k_with "mcall ref" => (refine toStop ?_))
  trivial
end
section
section
structure EM (P :Params) (x :EA) (t :Ent) (ws ms :List Value) (news :List (Addr × Obj)) :Prop where
  r1 :(x.ml,listOf ms.toArray x.mn) ∈ news
  r2 :(x.rl,listOf ws.toArray x.rn) ∈ news
  r3 :(x.e,instObj 74 x.ed) ∈ news
  r4 :(x.ed,dictOf (entD P x t.user t.ext t.sp t.ct) 6) ∈ news
  hw :IntsAre ws t.raw
  hm :IntsAre ms t.map
  lw :t.raw.length = 11
  lm :t.map.length = 16
theorem EM.mono {P :Params} {x :EA} {t :Ent} {ws ms :List Value} {news news' :List (Addr × Obj)} (em :EM P x t ws ms news) (hs :∀ p ∈ news,p ∈ news') :EM P x t ws ms news' :=
  ⟨hs _ em.r1,hs _ em.r2,hs _ em.r3,hs _ em.r4,em.hw,em.hm,em.lw,em.lm⟩
local macro_rules | `(tactic| kst_all) => `(tactic| k_extra "kst_all5")
theorem kw14 :True :=by
  (k_with "kst_all5" => (exact EM.mono (by assumption) (by ktr_rel)))
  (k_with "q5" => ((refine useI (map_slots_ok (by assumption) (by ktr_unf) (by ktr_units) (by ktr_room) (by tb_rel)) (by k_asm) (by k_asm) ?_; kst_same)))
  (k_with "mcall ref" => (((with_reducible show wpAny _ _ (call (.ref 85) _) _ _ _); first | k_extra "q5" | k_dflt (k_extra "q5"))))
  trivial
section
variable (w dp un fr gd s mg mb G news a vs D)
noncomputable abbrev map_octets_ok_Q (l n :Nat) (ws :List Value) (os :List Int) :Prop :=∀ (gh :GH w mg mb G) (st :Stay G s.heap) (hn :HN G s.heap news) (lv :Lv dp un 2) (dm :DM w.params a vs D news) (q1 :(l,listOf ws.toArray n) ∈ news) (qI :IntsAre ws os) (ql :os.length = 16),wpAny (model rw_tg0048_01.row.prog w) (AR dp un fr gd) (call (.ref 200) [.ref a.d,.ref l]) (RetG s news (IsIL os)) (fun _ _ => False) s
end
theorem map_octets_ok_L :∀ w dp un fr gd s mg mb G news a vs D l n ws os,map_octets_ok_Q w dp un fr gd s mg mb G news a vs D l n ws os :=by
  intro w dp un fr gd s mg mb G news a vs D l n ws os
  delta map_octets_ok_Q
  intro gh st hn lv dm q1 qI ql
  have dm0 :=dm
  obtain ⟨m1,m2,m3,m4,hI,hl⟩ :=dm
  have e9 :=qI.length
  cell_enter
  k_steps
  ktr_step
  assumption
theorem map_octets_ok {l n :Nat} {ws :List Value} {os :List Int} :map_octets_ok_Q w dp un fr gd s mg mb G news a vs D l n ws os :=map_octets_ok_L w dp un fr gd s mg mb G news a vs D l n ws os
theorem kw15 :True :=by
  (k_with "q6" => ((refine useIL (map_octets_ok (by assumption) (by ktr_unf) (by ktr_units) (by ktr_room) (by tb_rel) (by k_mem) (by assumption) (by assumption)) (by k_asm) (by k_asm) ?_; kst_facts)))
  (k_with "mcall ref" => (((with_reducible show wpAny _ _ (call (.ref 200) _) _ _ _); first | k_extra "q6" | k_dflt (k_extra "q6"))))
  trivial
noncomputable def entOcts (t :Ent) :List Int :=[t.user] ++ t.raw ++ [Int.fmod t.ext 32,t.sp,Int.fdiv t.ext 32,t.ct] ++ t.map
section
variable (w dp un fr gd s mg mb G news a vs D)
noncomputable abbrev entry_octets_ok_Q (x :EA) (t :Ent) (ws ms :List Value) :Prop :=∀ (gh :GH w mg mb G) (st :Stay G s.heap) (hn :HN G s.heap news) (lv :Lv dp un 3) (dm :DM w.params a vs D news) (em :EM w.params x t ws ms news),wpAny (model rw_tg0048_01.row.prog w) (AR dp un fr gd) (call (.ref 127) [.ref a.d,.ref x.e]) (RetG s news (IsIL (entOcts t))) (fun _ _ => False) s
end
theorem entry_octets_ok_L :∀ w dp un fr gd s mg mb G news a vs D x t ws ms,entry_octets_ok_Q w dp un fr gd s mg mb G news a vs D x t ws ms :=by
  intro w dp un fr gd s mg mb G news a vs D x t ws ms
  delta entry_octets_ok_Q
  intro gh st hn lv dm em
  have dm0 :=dm
  obtain ⟨m1,m2,m3,m4,hI,hl⟩ :=dm
  obtain ⟨r1,r2,r3,r4,hw,hm,lw,lm⟩ :=em
  have e9 :=hw.length
  have e8 :=hm.length
  cell_enter
  k_steps
  ktr_step
  assumption
theorem entry_octets_ok {x :EA} {t :Ent} {ws ms :List Value} :entry_octets_ok_Q w dp un fr gd s mg mb G news a vs D x t ws ms :=entry_octets_ok_L w dp un fr gd s mg mb G news a vs D x t ws ms
end
theorem kw16 :True :=by
  (k_with "mcall ref" => (refine toStop ?_))
  trivial
end
section
section
theorem dict_list {es :List DictEntry} {k :Nat} {u :Array Value} {n :Nat} :dictOf es k ≠ listOf u n :=fun e => absurd (Value.type.inj (congrArg Obj.cls e)) (by decide)
noncomputable def lay (D :List Int) (b :Nat) (os :List Int) :List Int :=D.take b ++ os ++ D.drop (b + os.length)
theorem lay_length {D os :List Int} {b :Nat} (h :b + os.length ≤ D.length) :(lay D b os).length = D.length :=by
  unfold lay
  simp only [List.length_append,List.length_take,List.length_drop]
  omega
theorem lay_nil {D :List Int} {b :Nat} (h :b ≤ D.length) :lay D b [] = D :=by
  unfold lay
  simp
theorem lay_set {D os :List Int} {b i :Nat} {x :Int} (h :b + os.length ≤ D.length) (hx :os[i]? = some x) :(lay D b (os.take i)).set (b + i) x = lay D b (os.take (i + 1)) :=by
  obtain ⟨hi,hv⟩ :_ :=List.getElem?_eq_some_iff.mp hx
  subst hv
  apply List.ext_getElem?
  intros j
  unfold lay
  rw [List.getElem?_set]
  simp only [List.append_assoc,List.getElem?_append,List.length_append,List.length_take,List.getElem?_take,List.getElem?_drop]
  have hm :min b D.length = b :=by omega
  have h1 :min i os.length = i :=by omega
  have h2 :min (i + 1) os.length = i + 1 :=by omega
  rw [hm,h1,h2]
  rcases Nat.lt_trichotomy j (b + i) with h3 | h3 | h3
  · rw [if_neg (by omega)]
    by_cases h4 :j < b
    · simp only [if_pos h4]
    · simp only [if_neg h4,if_pos (show j - b < i by omega),if_pos (show j - b < i + 1 by omega)]
  · subst h3
    have h5 :(List.drop (b + i) D).length = D.length - (b + i) :=List.length_drop
    rw [if_pos rfl,if_pos (by omega)]
    simp only [if_neg (show ¬ b + i < b by omega),if_pos (show b + i - b < i + 1 by omega)]
    rw [show b + i - b = i by omega,List.getElem?_eq_getElem hi]
  · rw [if_neg (by omega)]
    simp only [if_neg (show ¬ j < b by omega),if_neg (show ¬ j - b < i by omega),if_neg (show ¬ j - b < i + 1 by omega)]
    congr 1
    omega
theorem kw17 :True :=by
  (k_with "q7" => ((refine useV (need_writable_ok (by assumption) (by ktr_unf) (by ktr_units) (by ktr_room) (by tb_rel)) (by k_asm) (by k_asm) ?_; kst_mem)))
  (k_with "mcall ref" => (((with_reducible show wpAny _ _ (call (.ref 113) _) _ _ _); first | k_extra "q7" | k_dflt (k_extra "q7"))))
  (k_with "q8" => ((refine useIL (raw_entry_ok (by assumption) (by ktr_unf) (by ktr_units) (by ktr_room) (by tb_rel) (by assumption) (by assumption)) (by k_asm) (by k_asm) ?_; kst_facts)))
  (k_with "mcall ref" => (((with_reducible show wpAny _ _ (call (.ref 141) _) _ _ _); first | k_extra "q8" | k_dflt (k_extra "q8"))))
  (k_with "mexec For Tuple Call" => (k_extra "r6"))
  trivial
section
variable (w dp un fr gd s mg mb G news a vs D)
noncomputable abbrev put_entry_ok_Q (l n :Nat) (ws :List Value) (os :List Int) (k :Int) (t :Tok) :Prop :=∀ (gh :GH w mg mb G) (st :Stay G s.heap) (hn :HN G s.heap news) (lv :Lv dp un 3) (dm :DM w.params a vs D news) (q1 :(l,listOf ws.toArray n) ∈ news) (qI :IntsAre ws os) (ql :os.length = 32) (k0 :0 ≤ k) (k8 :k < 8),wpAny (model rw_tg0048_01.row.prog w) (AR dp un fr gd) (call (.ref 162) [.ref a.d,.int k t,.ref l]) (MutG s news a.l (Lays a.n (lay D (32 * k.toNat) os))) (fun _ _ => False) s
end
theorem put_entry_ok_L :∀ w dp un fr gd s mg mb G news a vs D l n ws os k t,put_entry_ok_Q w dp un fr gd s mg mb G news a vs D l n ws os k t :=by
  intro w dp un fr gd s mg mb G news a vs D l n ws os k t
  delta put_entry_ok_Q
  intro gh st hn lv dm q1 qI ql k0 k8
  have dm0 :=dm
  obtain ⟨m1,m2,m3,m4,hI,hl⟩ :=dm
  have e9 :=qI.length
  cell_enter
  k_steps
  rename Fr _ _ _ _ => F1
  rename News _ _ _ _ => N1
  have N2 :=News.first (x :=a.l) (o :=listOf vs.toArray a.n) N1 (by k_mem)
  have n1 :a.d ≠ a.l :=News.ne N1 (o :=instObj 53 a.dd) (o' :=listOf vs.toArray a.n) (by k_mem) (by k_mem) (fun e => by cases e)
  have n2 :a.dd ≠ a.l :=News.ne N1 (o :=dictOf (diskD w.params a) 7) (o' :=listOf vs.toArray a.n) (by k_mem) (by k_mem) dict_list
  have n3 :l ≠ a.l :=News.ne N1 (o :=listOf ws.toArray n) (o' :=listOf vs.toArray a.n) (by k_mem) (by k_mem) (list_ne (by rw [e9,hI.length]; omega))
  generalize hR :dropN a.l _ = R at N2
  have R0 :∀ p ∈ R,p.1 ≠ a.l :=by rw [← hR]; exact dropN_ne
  have R1 :(a.d,instObj 53 a.dd) ∈ R :=by rw [← hR]; exact mem_dropN.mpr ⟨by k_mem,n1⟩
  have R2 :(a.dd,dictOf (diskD w.params a) 7) ∈ R :=by rw [← hR]; exact mem_dropN.mpr ⟨by k_mem,n2⟩
  have R3 :(l,listOf ws.toArray n) ∈ R :=by rw [← hR]; exact mem_dropN.mpr ⟨by k_mem,n3⟩
  refine enum_ints (fun i nw => ∃ vs' :List Value,nw = (a.l,listOf vs'.toArray a.n) :: R ∧ IntsAre vs' (lay D (32 * k.toNat) (os.take i))) rfl F1 N2 (List.mem_cons_of_mem _ R3) qI ?_ ?_ ⟨vs,rfl,by rw [List.take_zero,lay_nil (by rw [hl]; exact Nat.le_trans (Nat.le_add_right _ 32) (row_o k8))]; exact hI⟩ ?_
  · (intro i nw; rintro ⟨vs',rfl,_⟩)
    exact List.mem_cons_of_mem _ R3
  · (intro I i x t t' T nw h tk v1 v2 o1 o2 hlt hi hx; rintro ⟨vs',rfl,hI'⟩; intro hT F' N')
    have lenD :=hI'.length
    clear N1 N2 F1
    have la :=lt_head hlt
    have lenL :(lay D (32 * k.toNat) (os.take i)).length = 1408 :=by rw [lay_length (by rw [List.length_take,hl,ql]; exact Nat.le_trans (Nat.add_le_add_left (Nat.min_le_right _ _) _) (row_o k8)),hl]
    k_steps
    refine turnEnd2 _ (by k_asm) (by k_asm) (off_two (lt_same hlt)) but2_again ⟨_,rfl,?_⟩
    have this :IntsAre (vs'.set (k * 32 + (i :Int)).toNat (.int x t')) ((lay D (32 * k.toNat) (os.take i)).set (k * 32 + (i :Int)).toNat x) :=by assumption
    rw [row_e3 i k0,lay_set (by rw [hl,ql]; exact row_o k8) hx] at this
    rw [row_e3 i k0]
    exact this
  · (intro nw h tk v1 v2; rintro ⟨vs',rfl,hI'⟩; intro F' N')
    clear N1 N2 F1
    rw [List.take_length] at hI'
    k_steps
    refine mutG [] (by assumption) (by assumption) (by assumption) (by assumption) ?_ List.mem_cons_self (fun _ h => nomatch h) (fun _ h => nomatch h) ⟨rfl,rfl,vs',rfl,hI'⟩
    intro p hp np
    refine List.mem_cons_of_mem _ ?_
    rw [← hR]
    exact mem_dropN.mpr ⟨by (repeat (first | exact hp | refine List.mem_cons_of_mem _ ?_)),np⟩
theorem put_entry_ok {l n :Nat} {ws :List Value} {os :List Int} {k :Int} {t :Tok} :put_entry_ok_Q w dp un fr gd s mg mb G news a vs D l n ws os k t :=put_entry_ok_L w dp un fr gd s mg mb G news a vs D l n ws os k t
end
theorem kw18 :True :=by
  (k_with "mcall ref" => (refine toStop ?_))
  (k_with "mexec For Tuple Call" => (refine toStop ?_))
  trivial
end
section
section
theorem kw19 :True :=by
  (k_with "msetItem ref int" => (k_extra "r8"))
  trivial
theorem kw20 :True :=by
  (k_with "mcall ref" => (((with_reducible show wpAny _ _ (call (.ref 113) _) _ _ _); first | k_extra "q7" | k_dflt (k_extra "q7"))))
  (k_with "mcall ref" => (((with_reducible show wpAny _ _ (call (.ref 141) _) _ _ _); first | k_extra "q8" | k_dflt (k_extra "q8"))))
  trivial
section
variable (w dp un fr gd s mg mb G news a vs D)
noncomputable abbrev erase_entry_ok_Q (k :Int) (t :Tok) :Prop :=∀ (gh :GH w mg mb G) (st :Stay G s.heap) (hn :HN G s.heap news) (lv :Lv dp un 3) (dm :DM w.params a vs D news) (k0 :0 ≤ k) (k8 :k < 8),wpAny (model rw_tg0048_01.row.prog w) (AR dp un fr gd) (call (.ref 169) [.ref a.d,.int k t]) (MutG s news a.l (Lays a.n (D.set (32 * k.toNat) 229))) (fun _ _ => False) s
end
theorem erase_entry_ok_L :∀ w dp un fr gd s mg mb G news a vs D k t,erase_entry_ok_Q w dp un fr gd s mg mb G news a vs D k t :=by
  intro w dp un fr gd s mg mb G news a vs D k t
  delta erase_entry_ok_Q
  intro gh st hn lv dm k0 k8
  have dm0 :=dm
  obtain ⟨m1,m2,m3,m4,hI,hl⟩ :=dm
  cell_enter
  k_steps
  kpc_size
  rw [show 32 * k.toNat = (k * 32).toNat by omega]
  assumption
theorem erase_entry_ok {k :Int} {t :Tok} :erase_entry_ok_Q w dp un fr gd s mg mb G news a vs D k t :=erase_entry_ok_L w dp un fr gd s mg mb G news a vs D k t
local macro_rules | `(tactic| kst_all) => `(tactic| k_extra "kst_all6")
theorem kw21 :True :=by
  (k_with "kst_all6" => (exact EM.mono (by assumption) (by ktr_rel)))
  (k_with "q9" => ((refine useIL (entry_octets_ok (by assumption) (by ktr_unf) (by ktr_units) (by ktr_room) (by tb_rel) (by kst_all)) (by k_asm) (by k_asm) ?_; kst_facts)))
  (k_with "mcall ref" => (((with_reducible show wpAny _ _ (call (.ref 127) _) _ _ _); first | k_extra "q9" | k_dflt (k_extra "q9"))))
  (k_with "mcall ref" => ((refine useL (o₀ :=listOf _ _) (put_entry_ok (by assumption) (by ktr_unf) (by ktr_units) (by ktr_room) (by tb_rel) (by k_mem) (by assumption) (by assumption) (by assumption) (by assumption)) (by k_asm) (by k_asm) (by k_mem) ?_; kpc_fact)))
  trivial
theorem entOcts_length {t :Ent} (h1 :t.raw.length = 11) (h2 :t.map.length = 16) :(entOcts t).length = 32 :=by
  unfold entOcts
  simp only [List.length_append,List.length_cons,List.length_nil,h1,h2]
section
variable (w dp un fr gd s mg mb G news a vs D)
noncomputable abbrev write_entry_ok_Q (x :EA) (e :Ent) (ws ms :List Value) (k :Int) (t :Tok) :Prop :=∀ (gh :GH w mg mb G) (st :Stay G s.heap) (hn :HN G s.heap news) (lv :Lv dp un 4) (dm :DM w.params a vs D news) (em :EM w.params x e ws ms news) (k0 :0 ≤ k) (k8 :k < 8),wpAny (model rw_tg0048_01.row.prog w) (AR dp un fr gd) (call (.ref 155) [.ref a.d,.int k t,.ref x.e]) (MutG s news a.l (Lays a.n (lay D (32 * k.toNat) (entOcts e)))) (fun _ _ => False) s
end
theorem write_entry_ok_L :∀ w dp un fr gd s mg mb G news a vs D x e ws ms k t,write_entry_ok_Q w dp un fr gd s mg mb G news a vs D x e ws ms k t :=by
  intro w dp un fr gd s mg mb G news a vs D x e ws ms k t
  delta write_entry_ok_Q
  intro gh st hn lv dm em k0 k8
  have dm0 :=dm
  have em0 :=em
  obtain ⟨m1,m2,m3,m4,hI,hl⟩ :=dm
  have e9 :=entOcts_length em.lw em.lm
  cell_enter
  k_steps
  kpc_size
  assumption
theorem write_entry_ok {x :EA} {e :Ent} {ws ms :List Value} {k :Int} {t :Tok} :write_entry_ok_Q w dp un fr gd s mg mb G news a vs D x e ws ms k t :=write_entry_ok_L w dp un fr gd s mg mb G news a vs D x e ws ms k t
end
theorem kw22 :True :=by
  (k_with "mcall ref" => (refine toStop ?_))
  (k_with "msetItem ref int" => (refine toStop ?_))
  trivial
end
section
section
local macro_rules | `(tactic| kst_in) => `(tactic| k_extra "kst_in7")
theorem kw23 :True :=by
  (k_with "kst_in7" => ((intros q9 hq9; first | exact Nat.ne_of_lt ((by assumption :∀ p ∈ _,p.1 < _) q9 hq9) | exact off1_ne (by assumption) q9 hq9)))
  trivial
theorem paired_bools {α :Type} {f :α → Bool} {rs :List α} {ys :List Value} (h :Paired (fun n y => y = Value.bool (f n)) rs ys) :LSm.BoolsAre ys (rs.map f) :=by
  induction h with
  | nil => exact .nil
  | cons h _ ih => subst h; exact .cons _ ih
theorem kw24 :True :=by
  (k_with "meval BoolOp" => (first | with_unfolding_all refine BoolOp_one ?_ | with_unfolding_all refine BoolOp_or ?_))
  (k_with "meval ListComp" => (k_extra "r2"))
  trivial
noncomputable def matchOne (p :Int × Int) :Bool :=Builtin.bitAnd p.1 127 == 63 || Builtin.bitAnd p.1 127 == Builtin.bitAnd p.2 127
section
variable (w dp un fr gd s mg mb G news)
noncomputable abbrev matches_ok_Q (l1 l2 n1 n2 :Nat) (us ws :List Value) (ps rs :List Int) :Prop :=∀ (gh :GH w mg mb G) (st :Stay G s.heap) (hn :HN G s.heap news) (lv :Lv dp un 1) (m1 :(l1,listOf us.toArray n1) ∈ news) (hI1 :IntsAre us ps) (m2 :(l2,listOf ws.toArray n2) ∈ news) (hI2 :IntsAre ws rs) (hl1 :ps.length = 11) (hl2 :rs.length = 11),wpAny (model rw_tg0048_01.row.prog w) (AR dp un fr gd) (call (.ref 245) [.ref l1,.ref l2]) (RetG s news (IsB ((ps.zip rs).all matchOne))) (fun _ _ => False) s
end
theorem matches_ok_L :∀ w dp un fr gd s mg mb G news l1 l2 n1 n2 us ws ps rs,matches_ok_Q w dp un fr gd s mg mb G news l1 l2 n1 n2 us ws ps rs :=by
  intro w dp un fr gd s mg mb G news l1 l2 n1 n2 us ws ps rs
  delta matches_ok_Q
  intro gh st hn lv m1 hI1 m2 hI2 hl1 hl2
  cell_enter
  k_steps
  k_dflt (refine zip_src (by rfl) (by k_asm) (by k_asm) m1 m2 hI1 hI2 (by rw [hl1]; decide) (fun p y => y = .bool (matchOne p)) ?_ ?_)
  · intro a b t u C oC D ys m₂ s' news' E' ha hb hC h1 h2 hs F N
    k_steps
    all_goals (refine outL (by assumption) (by assumption) ?_; simp_all [matchOne])
  · intro D h tk ys hp F N o1
    have hb :=paired_bools hp
    k_steps
    tb_start
    exact ⟨rfl,rfl⟩
theorem matches_ok {l1 l2 n1 n2 :Nat} {us ws :List Value} {ps rs :List Int} :matches_ok_Q w dp un fr gd s mg mb G news l1 l2 n1 n2 us ws ps rs :=matches_ok_L w dp un fr gd s mg mb G news l1 l2 n1 n2 us ws ps rs
end
theorem kw25 :True :=by
  (k_with "meval BoolOp" => (refine toStop ?_))
  (k_with "meval ListComp" => (refine toStop ?_))
  trivial
end
section
section
structure PR where
  T :Nat
  num :Nat
  tn :Tok
  x :EA
  e :Ent
  ws :List Value
  ms :List Value
deriving Inhabited
noncomputable abbrev PR.row (p :PR) :Nat × Ent :=(p.num,p.e)
noncomputable abbrev one (P :Params) (p :PR) :List (Addr × Obj) :=(p.T,tupOf [.int (p.num :Nat) p.tn,.ref p.x.e]) :: eNews P p.x p.e p.ws p.ms
noncomputable abbrev flat (P :Params) (ps :List PR) :List (Addr × Obj) :=ps.flatMap (one P)
noncomputable abbrev refs (ps :List PR) :List Value :=ps.map fun p => .ref p.T
structure PR.Ok (p :PR) :Prop where
  hw :IntsAre p.ws p.e.raw
  hm :IntsAre p.ms p.e.map
  lw :p.e.raw.length = 11
  lm :p.e.map.length = 16
  nm :p.num < 8
  od :EOrd p.x
noncomputable def Far (p q :PR) :Prop :=@Ne Nat p.x.ed q.x.ed ∧ @Ne Nat p.x.ml q.x.ml
structure Prs (f :Nat → Option Ent) (k :Nat) (ps :List PR) :Prop where
  rows :ps.map PR.row = (List.range k).filterMap fun i => (f i).map fun e => (i,e)
  ok :∀ p ∈ ps,p.Ok
  far :ps.Pairwise Far
theorem Prs.nil {f :Nat → Option Ent} :Prs f 0 [] :=⟨rfl,(fun _ h => nomatch h),.nil⟩
theorem Prs.skip {f :Nat → Option Ent} {k :Nat} {ps :List PR} (h :Prs f k ps) (hf :f k = none) :Prs f (k + 1) ps :=⟨by rw [h.rows,List.range_succ,List.filterMap_append]; simp [hf],h.ok,h.far⟩
theorem Prs.snoc {f :Nat → Option Ent} {k :Nat} {ps :List PR} {p :PR} (h :Prs f k ps) (hn :p.num = k) (hf :f k = some p.e) (ok :p.Ok) (far :∀ q ∈ ps,Far q p) :Prs f (k + 1) (ps ++ [p]) where
  rows :=by
    rw [List.map_append,h.rows,List.range_succ,List.filterMap_append]
    simp [hf,hn]
  ok :=fun q hq => by
    rcases List.mem_append.mp hq with hq | hq
    · exact h.ok q hq
    · rw [List.mem_singleton.mp hq]; exact ok
  far :=List.pairwise_append.mpr ⟨h.far,List.pairwise_singleton ..,fun q hq r hr => by rw [List.mem_singleton.mp hr]; exact far q hq⟩
theorem Prs.len {f :Nat → Option Ent} {k :Nat} {ps :List PR} (h :Prs f k ps) :ps.length ≤ k :=by
  have :=congrArg List.length h.rows
  rw [List.length_map] at this
  rw [this]
  exact Nat.le_trans (List.length_filterMap_le _ _) (by simp)
noncomputable def IsPairs (P :Params) (f :Nat → Option Ent) (r :Value) (tl :List (Addr × Obj)) :Prop :=
  ∃ F n ps,r = .ref F ∧ tl = (F,listOf (refs ps).toArray n) :: flat P ps ∧ Prs f 8 ps ∧ ∀ p ∈ flat P ps,p.1 ≠ F
theorem useP {M :Model} {A :Around} {E :Value → Shared → Prop} {s :Shared} {g :Heap} {L :Addr} {m :Str → Option Value} {news :List (Addr × Obj)} {t :Sem Value} {Q :Value → Shared → Prop} {P :Params} {f :Nat → Option Ent} (spec :wpAny M A t (RetG s news (IsPairs P f)) (fun _ _ => False) s) (F :Fr g L s.heap m) (N :News g L s.heap news)
    (k :∀ (b :Addr) n ps h' tk,Fr g L h' m → News g L h' ((b,listOf (refs ps).toArray n) :: (flat P ps ++ news)) → Prs f 8 ps → (∀ p ∈ flat P ps,p.1 ≠ b) → (∀ p ∈ (b,listOf (refs ps).toArray n) :: flat P ps,∀ q ∈ news,q.1 ≠ p.1) → Q (.ref b) { s with heap :=h',toks :=tk }) :wpAny M A t Q E s :=
  useG spec F N fun r tl h' tk hP F' N' lt => by rcases hP with ⟨b,n,ps,e1,e2,h1,h2⟩; subst e1; subst e2; exact k b n ps h' tk F' N' h1 h2 lt
theorem refs_snoc {ps :List PR} {p :PR} :(refs ps).toArray.push (.ref p.T) = (refs (ps ++ [p])).toArray :=by
  apply Array.toList_inj.mp
  simp [refs]
theorem flat_snoc {P :Params} {ps :List PR} {p :PR} :flat P (ps ++ [p]) = flat P ps ++ one P p :=by simp [flat]
theorem append_first {prog :Program} {w :World} {A :Around} {E :Value → Shared → Prop} {s :Shared} {h₀ :Heap} {L D :Addr} {m :Str → Option Value} {news :List (Addr × Obj)} {its :Array Value} {n :Nat} {x :Value} {Q :Value → Shared → Prop}
    (F :Fr h₀ L s.heap m) (N :News h₀ L s.heap news) (hm :(D,listOf its n) ∈ news) (hz :its.size ≤ 8)
    (h :∀ h',Fr h₀ L h' m → News h₀ L h' ((D,listOf (its.push x) (n + 1)) :: dropN D news) → Q .none { s with heap :=h' }) :wpAny (model prog w) A (call (.builtin "list.append") [.ref D,x]) Q E s :=
  append_K F (News.first N hm) (Upd.head dropN_ne) h (by rw [PySem.sizeLine_eq]; omega)
noncomputable abbrev Sep (P :Params) (ps :List PR) (R :List (Addr × Obj)) (F :Addr) :Prop :=(∀ p ∈ flat P ps ++ R,p.1 ≠ F) ∧ ∀ p ∈ flat P ps,∀ q ∈ R,q.1 ≠ p.1
noncomputable def Grow (P :Params) (f :Nat → Option Ent) (R :List (Addr × Obj)) (F I :Addr) (i :Nat) (nw :List (Addr × Obj)) :Prop :=
  ∃ ps n,nw = (F,listOf (refs ps).toArray n) :: (flat P ps ++ R) ∧ Prs f i ps ∧ Sep P ps R F ∧ ∀ p ∈ nw,p.1 ≠ I
theorem Grow.more {P :Params} {f :Nat → Option Ent} {R all :List (Addr × Obj)} {F I :Addr} {i n :Nat} {ps :List PR} {p :PR} (hp :Prs f i ps) (h2 :Sep P ps R F) (h3 :∀ p ∈ (F,listOf (refs ps).toArray n) :: (flat P ps ++ R),p.1 ≠ I)
    (hn :p.num = i) (hf :f i = some p.e) (ok :p.Ok) (far :∀ q ∈ ps,Far q p) (nF :∀ q ∈ one P p,q.1 ≠ F) (nI :∀ q ∈ one P p,q.1 ≠ I) (nR :∀ q ∈ one P p,∀ r ∈ R,r.1 ≠ q.1) (hs :∀ q ∈ (flat P ps ++ R),q ∈ all) (ho :∀ q ∈ one P p,q ∈ all) :
    Grow P f R F I (i + 1) ((F,listOf ((refs ps).toArray.push (.ref p.T)) (n + 1)) :: (flat P (ps ++ [p]) ++ R)) ∧ (∀ q ∈ ((F,listOf ((refs ps).toArray.push (.ref p.T)) (n + 1)) :: (flat P (ps ++ [p]) ++ R)),q ∈ (F,listOf ((refs ps).toArray.push (.ref p.T)) (n + 1)) :: dropN F all) :=by
  have hF :∀ q ∈ flat P (ps ++ [p]) ++ R,q.1 ≠ F :=fun q hq => by
    rw [flat_snoc] at hq
    rcases List.mem_append.mp hq with hq | hq
    · rcases List.mem_append.mp hq with hq | hq
      · exact h2.1 q (List.mem_append_left _ hq)
      · exact nF q hq
    · exact h2.1 q (List.mem_append_right _ hq)
  refine ⟨⟨ps ++ [p],n + 1,by rw [refs_snoc],hp.snoc hn hf ok far,⟨hF,fun q hq r hr => ?_⟩,fun q hq => ?_⟩,fun q hq => ?_⟩
  · rw [flat_snoc] at hq
    rcases List.mem_append.mp hq with hq | hq
    · exact h2.2 q hq r hr
    · exact nR q hq r hr
  · rcases List.mem_cons.mp hq with rfl | hq
    · exact h3 (F,listOf (refs ps).toArray n) List.mem_cons_self
    · rw [flat_snoc] at hq
      rcases List.mem_append.mp hq with hq | hq
      · rcases List.mem_append.mp hq with hq | hq
        · exact h3 q (List.mem_cons_of_mem _ (List.mem_append_left _ hq))
        · exact nI q hq
      · exact h3 q (List.mem_cons_of_mem _ (List.mem_append_right _ hq))
  · rcases List.mem_cons.mp hq with rfl | hq
    · exact List.mem_cons_self
    · refine List.mem_cons_of_mem _ (mem_dropN.mpr ⟨?_,hF q hq⟩)
      rw [flat_snoc] at hq
      rcases List.mem_append.mp hq with hq | hq
      · rcases List.mem_append.mp hq with hq | hq
        · exact hs q (List.mem_append_left _ hq)
        · exact ho q hq
      · exact hs q (List.mem_append_right _ hq)
section
variable {prog :Program} {w :World} {A :Around} {E :Value → Shared → Prop} {s :Shared} {env :Env} {h₀ :Heap} {x :Str} {body :List Stmt} {Q :Flow → Shared → Prop}
theorem range_grow {I :Addr} {n k :Nat} {a :Int} {P :Params} {f :Nat → Option Ent} {R :List (Addr × Obj)} {F :Addr} (K :(Str → Option Value) → Prop)
    (step :∀ i m₁ t h tk it ps n',i < n → K m₁ → Prs f i ps → Sep P ps R F → (∀ p ∈ (F,listOf (refs ps).toArray n') :: (flat P ps ++ R),p.1 ≠ I) → Fr h₀ env.locals h (fun y => if y = x then some (.int (a + (i :Int)) t) else m₁ y) → News h₀ env.locals h ((I,it) :: (F,listOf (refs ps).toArray n') :: (flat P ps ++ R)) →
      wpAny (model prog w) A (execs body env) (TurnEnd h₀ env.locals { s with heap :=h,toks :=tk } ((I,it) :: []) K (Grow P f R F I (i + 1)) Q) E { s with heap :=h,toks :=tk })
    (fin :∀ m₁ ps n' h tk,K m₁ → Prs f n ps → Sep P ps R F → Fr h₀ env.locals h m₁ → News h₀ env.locals h ((F,listOf (refs ps).toArray n') :: (flat P ps ++ R)) → Q .next { s with heap :=h,toks :=tk })
    {m :Str → Option Value} (hK :K m) (h1 :∀ p ∈ R,p.1 ≠ F) (h2 :∀ p ∈ (F,listOf [].toArray k) :: R,p.1 < I) :RangeRest prog w A E h₀ env x body Q s I a n n 0 m ((F,listOf [].toArray k) :: R) :=
  range_inv K (Grow P f R F I) (fun i m₁ nw t h tk it hi hk hJ => by
    obtain ⟨ps,n',rfl,h1,h2,h3⟩ :_ :=hJ
    exact step i m₁ t h tk it ps n' hi hk h1 h2 h3) (fun m₁ nw h tk hk hJ => by
    obtain ⟨ps,n',rfl,h1,h2,h3⟩ :_ :=hJ
    exact fin m₁ ps n' h tk hk h1 h2) hK ⟨[],k,rfl,Prs.nil,⟨h1,fun _ h => nomatch h⟩,fun p hp => Nat.ne_of_lt (h2 p hp)⟩
end
theorem allLt {d :Addr} :∀ {l :List (Addr × Obj)},AllLt d l → ∀ p ∈ l,p.1 < d
  | [],_,_,h => nomatch h
  | _ :: _,x,p,h => by
    rcases List.mem_cons.mp h with rfl | h
    · exact x.1
    · exact allLt x.2 p h
theorem ne_by {a u :Int} (h :a = u) (hu :u ≠ 229) :a ≠ 229 :=h ▸ hu
section
variable {h₀ :Heap} {Q :Flow → Shared → Prop}
theorem turn_skip {P :Params} {f :Nat → Option Ent} {R all :List (Addr × Obj)} {F I L :Addr} {i n' :Nat} {ps :List PR} {it :Obj} {h' :Heap} {tk :Nat} {m' :Str → Option Value} {s₁ :Shared} {K :(Str → Option Value) → Prop}
    (hP :Prs f i ps) (hF :Sep P ps R F) (hN :∀ p ∈ (F,listOf (refs ps).toArray n') :: (flat P ps ++ R),p.1 ≠ I) (hf :f i = none) (F9 :Fr h₀ L h' m') (N9 :News h₀ L h' all) (hs :∀ q ∈ (I,it) :: (F,listOf (refs ps).toArray n') :: (flat P ps ++ R),q ∈ all) (hK :K m') :
    TurnEnd h₀ L s₁ ((I,it) :: []) K (Grow P f R F I (i + 1)) Q .next { s₁ with heap :=h',toks :=tk } :=
  turnEnd2 _ F9 (News.sub N9 hs) (fun p hp q hq => by rw [List.mem_singleton.mp hq]; exact hN p hp) hK ⟨ps,n',rfl,hP.skip hf,hF,hN⟩
noncomputable abbrev turn_grow_Q (h₀ :Heap) (Q :Flow → Shared → Prop) (P :Params) (f :Nat → Option Ent) (R led :List (Addr × Obj)) (F I L T :Addr) (i n' :Nat) (tn :Tok) (x :EA) (e :Ent) (ws ms :List Value) (ps :List PR) (it :Obj) (h' :Heap) (tk :Nat) (m' :Str → Option Value) (s₁ :Shared) (K :(Str → Option Value) → Prop) :Prop :=∀ (hP :Prs f i ps) (hF :Sep P ps R F) (hN :∀ p ∈ (F,listOf (refs ps).toArray n') :: (flat P ps ++ R),p.1 ≠ I) (hf :f i = some e) (hi :i < 8) (le :e.raw.length = 11 ∧ e.map.length = 16) (hw :IntsAre ws e.raw) (hm :IntsAre ms e.map) (od :EOrd x) (lt :∀ p ∈ eNews P x e ws ms,∀ q ∈ led,q.1 ≠ p.1) (hT :AllLt T ((x.ml,listOf ms.toArray x.mn) :: (x.rl,listOf ws.toArray x.rn) :: (x.e,instObj 74 x.ed) :: (x.ed,dictOf (entD P x e.user e.ext e.sp e.ct) 6) :: led)) (hs :∀ q ∈ (I,it) :: (F,listOf (refs ps).toArray n') :: (flat P ps ++ R),q ∈ led) (F8 :Fr h₀ L h' m') (N8 :News h₀ L h' ((F,listOf ((refs ps).toArray.push (.ref T)) (n' + 1)) :: dropN F ((T,tupOf [.int (i :Nat) tn,.ref x.e]) :: (x.ml,listOf ms.toArray x.mn) :: (x.rl,listOf ws.toArray x.rn) :: (x.e,instObj 74 x.ed) :: (x.ed,dictOf (entD P x e.user e.ext e.sp e.ct) 6) :: led))) (hK :K m'),TurnEnd h₀ L s₁ ((I,it) :: []) K (Grow P f R F I (i + 1)) Q .next { s₁ with heap :=h',toks :=tk }
theorem turn_grow_L :∀ h₀ Q P f R led F I L T i n' tn x e ws ms ps it h' tk m' s₁ K,turn_grow_Q h₀ Q P f R led F I L T i n' tn x e ws ms ps it h' tk m' s₁ K :=by
  intro h₀ Q P f R led F I L T i n' tn x e ws ms ps it h' tk m' s₁ K
  delta turn_grow_Q
  intro hP hF hN hf hi le hw hm od lt hT hs F8 N8 hK
  have up :∀ q ∈ led,q.1 < T :=fun q hq => allLt hT q (List.mem_cons_of_mem _ (List.mem_cons_of_mem _ (List.mem_cons_of_mem _ (List.mem_cons_of_mem _ hq))))
  have off :∀ q₀ ∈ led,∀ q ∈ one P ⟨T,i,tn,x,e,ws,ms⟩,q.1 ≠ q₀.1 :=fun q₀ h₀ q hq => by
    rcases List.mem_cons.mp hq with rfl | hq
    · exact Nat.ne_of_gt (up q₀ h₀)
    · exact Ne.symm (lt q hq q₀ h₀)
  have hI :(I,it) ∈ led :=hs _ List.mem_cons_self
  have hFl :(F,listOf (refs ps).toArray n') ∈ led :=hs _ (List.mem_cons_of_mem _ List.mem_cons_self)
  have hold :∀ q ∈ flat P ps ++ R,q ∈ led :=fun q hq => hs _ (List.mem_cons_of_mem _ (List.mem_cons_of_mem _ hq))
  obtain ⟨J,sub⟩ :=Grow.more (p :=⟨T,i,tn,x,e,ws,ms⟩) (all :=(T,tupOf [.int (i :Nat) tn,.ref x.e]) :: (x.ml,listOf ms.toArray x.mn) :: (x.rl,listOf ws.toArray x.rn) :: (x.e,instObj 74 x.ed) :: (x.ed,dictOf (entD P x e.user e.ext e.sp e.ct) 6) :: led) hP hF hN rfl hf ⟨hw,hm,le.1,le.2,hi,od⟩
    (fun q hq => ⟨lt (x.ed,dictOf (entD P x e.user e.ext e.sp e.ct) 6) (by simp) (q.x.ed,dictOf (entD P q.x q.e.user q.e.ext q.e.sp q.e.ct) 6) (hold _ (List.mem_append_left _ (List.mem_flatMap.mpr ⟨q,hq,by simp⟩))),
      lt (x.ml,listOf ms.toArray x.mn) (by simp) (q.x.ml,listOf q.ms.toArray q.x.mn) (hold _ (List.mem_append_left _ (List.mem_flatMap.mpr ⟨q,hq,by simp⟩)))⟩)
    (fun q hq => off _ hFl q hq) (fun q hq => off _ hI q hq) (fun q hq r hr => Ne.symm (off _ (hold r (List.mem_append_right _ hr)) q hq)) (fun q hq => List.mem_cons_of_mem _ (List.mem_cons_of_mem _ (List.mem_cons_of_mem _ (List.mem_cons_of_mem _ (List.mem_cons_of_mem _ (hold q hq))))))
    (fun q hq => by
      simp only [List.mem_cons,List.not_mem_nil,or_false] at hq ⊢
      rcases hq with rfl | rfl | rfl | rfl | rfl <;> simp)
  have hne :∀ p ∈ (F,listOf ((refs ps).toArray.push (.ref T)) (n' + 1)) :: (flat P (ps ++ [⟨T,i,tn,x,e,ws,ms⟩]) ++ R),p.1 ≠ I :=by
    obtain ⟨_,_,_,_,_,h⟩ :=J
    exact h
  refine turnEnd2 _ F8 ?_ (fun p hp q hq => by rw [List.mem_singleton.mp hq]; exact hne p hp) hK J
  intro q hq
  rcases List.mem_cons.mp hq with rfl | hq
  · refine N8 _ (List.mem_cons_of_mem _ (mem_dropN.mpr ⟨?_,?_⟩))
    · exact List.mem_cons_of_mem _ (List.mem_cons_of_mem _ (List.mem_cons_of_mem _ (List.mem_cons_of_mem _ (List.mem_cons_of_mem _ hI))))
    · exact Ne.symm (hN _ List.mem_cons_self)
  · exact N8 _ (sub q hq)
theorem turn_grow {P :Params} {f :Nat → Option Ent} {R led :List (Addr × Obj)} {F I L T :Addr} {i n' :Nat} {tn :Tok} {x :EA} {e :Ent} {ws ms :List Value} {ps :List PR} {it :Obj} {h' :Heap} {tk :Nat} {m' :Str → Option Value} {s₁ :Shared} {K :(Str → Option Value) → Prop}
    (hP :Prs f i ps) (hF :Sep P ps R F) (hN :∀ p ∈ (F,listOf (refs ps).toArray n') :: (flat P ps ++ R),p.1 ≠ I) (hf :f i = some e) (hi :i < 8) (le :e.raw.length = 11 ∧ e.map.length = 16) (hw :IntsAre ws e.raw) (hm :IntsAre ms e.map) (od :EOrd x)
    (lt :∀ p ∈ eNews P x e ws ms,∀ q ∈ led,q.1 ≠ p.1)
    (hT :AllLt T ((x.ml,listOf ms.toArray x.mn) :: (x.rl,listOf ws.toArray x.rn) :: (x.e,instObj 74 x.ed) :: (x.ed,dictOf (entD P x e.user e.ext e.sp e.ct) 6) :: led))
    (hs :∀ q ∈ (I,it) :: (F,listOf (refs ps).toArray n') :: (flat P ps ++ R),q ∈ led) (F8 :Fr h₀ L h' m')
    (N8 :News h₀ L h' ((F,listOf ((refs ps).toArray.push (.ref T)) (n' + 1)) :: dropN F ((T,tupOf [.int (i :Nat) tn,.ref x.e]) :: (x.ml,listOf ms.toArray x.mn) :: (x.rl,listOf ws.toArray x.rn) :: (x.e,instObj 74 x.ed) :: (x.ed,dictOf (entD P x e.user e.ext e.sp e.ct) 6) :: led))) (hK :K m') :
    TurnEnd h₀ L s₁ ((I,it) :: []) K (Grow P f R F I (i + 1)) Q .next { s₁ with heap :=h',toks :=tk } :=turn_grow_L h₀ Q P f R led F I L T i n' tn x e ws ms ps it h' tk m' s₁ K hP hF hN hf hi le hw hm od lt hT hs F8 N8 hK
end
theorem retPairs {g G h' :Heap} {L F :Addr} {m :Str → Option Value} {news :List (Addr × Obj)} {s :Shared} {P :Params} {f :Nat → Option Ent} {tk n :Nat} {ps :List PR}
    (F' :Fr g L h' m) (N :News g L h' ((F,listOf (refs ps).toArray n) :: (flat P ps ++ news))) (kp :∀ b o,s.heap.get? b = some o → b ∉ news.map (·.1) → g.get? b = some o) (hn :HN G s.heap news)
    (hP :Prs f 8 ps) (hF :Sep P ps news F) :RetG s news (IsPairs P f) (.ref F) { s with heap :=h',toks :=tk } :=by
  refine retG ((F,listOf (refs ps).toArray n) :: flat P ps) F' N kp hn (fun p hp => List.mem_cons_of_mem _ (List.mem_append_right _ hp)) (fun p hp => ?_) (fun p hp q hq => ?_) ⟨F,n,ps,rfl,rfl,hP,fun p hp => hF.1 p (List.mem_append_left _ hp)⟩
  · rcases List.mem_cons.mp hp with rfl | hp
    · exact List.mem_cons_self
    · exact List.mem_cons_of_mem _ (List.mem_append_left _ hp)
  · rcases List.mem_cons.mp hp with rfl | hp
    · exact hF.1 q (List.mem_append_right _ hq)
    · exact hF.2 p hp q hq
noncomputable def recD (D :List Int) (i :Nat) :List Int :=(D.drop (32 * i)).take 32
theorem recD_length {D :List Int} {i :Nat} (h :D.length = 1408) (hi :i < 8) :(recD D i).length = 32 :=by
  unfold recD
  rw [List.length_take,List.length_drop]
  omega
theorem recD_zero {D :List Int} {i :Nat} :(recD D i).getD 0 0 = D.getD (32 * i) 0 :=by
  unfold recD
  simp [List.getD]
theorem entOf_ok {os :List Int} (h :os.length = 32) :(entOf os).raw.length = 11 ∧ (entOf os).map.length = 16 :=by
  unfold entOf
  simp only [List.length_take,List.length_drop,h]
  decide
end
end
section
section
section
variable {prog :Program} {w :World} {A :Around} {E :Value → Shared → Prop} {s :Shared} {env :Env} {h₀ :Heap} {target :Expr} {body :List Stmt} {Q :Flow → Shared → Prop}
theorem list_turns {l :Addr} {items :List Value} {n :Nat} {m₀ :Str → Option Value} {news news₀ :List (Addr × Obj)} (K :(Str → Option Value) → Prop) (J :Addr → Nat → List (Addr × Obj) → Prop)
    (hh :A.handled = none) (F :Fr h₀ env.locals s.heap m₀) (N₀ :News h₀ env.locals s.heap news₀) (hsub :∀ p ∈ news,p ∈ news₀) (hm :(l,listOf items.toArray n) ∈ news)
    (hk :∀ I i nw,J I i nw → (l,listOf items.toArray n) ∈ nw)
    (step :∀ I i v m₁ nw h tk it,(∀ p ∈ news,p.1 < I) → items[i]? = some v → K m₁ → J I i nw → Fr h₀ env.locals h m₁ → News h₀ env.locals h ((I,it) :: nw) →
      wpAny (model prog w) A (assign target env v) (fun _ s₂ => wpAny (model prog w) A (execs body env) (TurnEnd h₀ env.locals { s with heap :=h,toks :=tk } ((I,it) :: []) K (J I (i + 1)) Q) E s₂) E { s with heap :=h,toks :=tk })
    (hK :K m₀) (h0 :∀ I,(∀ p ∈ news,p.1 < I) → J I 0 news)
    (fin :∀ I m₁ nw h tk,K m₁ → J I items.length nw → Fr h₀ env.locals h m₁ → News h₀ env.locals h nw → Q .next { s with heap :=h,toks :=tk }) :
    wpAny (model prog w) A (pyIter (.ref l)) (fun it s₂ => TurnsAt prog w A h₀ env target body Q E it s₂) E s :=by
  refine iter_listTurns hh F (News.sub N₀ hsub) hm rfl rfl fun I lt => ?_
  refine items_inv (items.map .val) K (J I) ?_ ?_ ?_ hK (h0 I lt)
  · exact fun i nw hJ => And.intro (hk I i nw hJ) trivial
  · intros i a m₁ nw v h tk ha hK' hJ hv F' o1 _ N'
    rw [List.getElem?_map] at ha
    cases q :items[i]? with
    | none => rw [q] at ha; cases ha
    | some v' =>
      rw [q] at ha
      have ha' :Itm.val v' = a :=Option.some.inj ha
      subst ha'
      have hv' :v = v' :=hv
      subst hv'
      exact step I i v m₁ nw h tk o1 lt q hK' hJ F' N'
  · intros m₁ nw h tk hK' hJ F' N'
    rw [List.length_map] at hJ
    exact fin I m₁ nw h tk hK' hJ F' N'
end
noncomputable def Apart (tl news :List (Addr × Obj)) :Prop :=∀ p ∈ tl,∀ q ∈ news,q.1 ≠ p.1
theorem passE {g h' G :Heap} {L :Addr} {m :Str → Option Value} {news led :List (Addr × Obj)} {s :Shared} {P :Params} {t :Ent} {tk :Nat} {x :EA} {ws ms :List Value}
    (F :Fr g L h' m) (N :News g L h' (eNews P x t ws ms ++ led)) (kp :∀ b o,s.heap.get? b = some o → b ∉ news.map (·.1) → g.get? b = some o) (hn :HN G s.heap news)
    (ha :Apart (eNews P x t ws ms) led) (hl :∀ p ∈ news,p ∈ led) (hw :IntsAre ws t.raw) (hm :IntsAre ms t.map) (od :EOrd x) :RetG s news (IsEnt P t) (.ref x.e) { s with heap :=h',toks :=tk } :=
  retG (eNews P x t ws ms) F N kp hn (fun p hp => List.mem_append_right _ (hl p hp)) (fun p hp => List.mem_append_left _ hp) (fun p hp q hq => ha p hp q (hl q hq)) ⟨x,ws,ms,rfl,rfl,hw,hm,od⟩
noncomputable def rowsF (f :Nat → Option Ent) :List (Nat × Ent) :=(List.range 8).filterMap fun i => (f i).map fun e => (i,e)
theorem Prs.rows8 {f :Nat → Option Ent} {ps :List PR} (h :Prs f 8 ps) :ps.map PR.row = rowsF f :=h.rows
noncomputable def IsOne (P :Params) (row :Nat × Ent) (r :Value) (tl :List (Addr × Obj)) :Prop :=∃ p :PR,r = .ref p.T ∧ tl = one P p ∧ p.Ok ∧ p.row = row
noncomputable def firstX (f :Nat → Option Ent) (ext :Int) :Option (Nat × Ent) :=(rowsF f).find? fun r => decide (r.2.ext = ext)
theorem firstX_some {f :Nat → Option Ent} {ps :List PR} {ext :Int} {i :Nat} {p :PR} (h :Prs f 8 ps) (hp :ps[i]? = some p) (he :p.e.ext = ext) (hb :∀ j < i,∀ q,ps[j]? = some q → q.e.ext ≠ ext) :firstX f ext = some p.row :=by
  unfold firstX
  rw [← h.rows8,List.find?_eq_some_iff_getElem]
  obtain ⟨hi,e⟩ :_ :=List.getElem?_eq_some_iff.mp hp
  refine ⟨by simpa using he,i,by simpa using hi,by simp [e],fun j hj => ?_⟩
  have hj' :j < ps.length :=Nat.lt_trans hj hi
  have :=hb j hj ps[j] (List.getElem?_eq_getElem hj')
  simpa using this
theorem firstX_none {f :Nat → Option Ent} {ps :List PR} {ext :Int} (h :Prs f 8 ps) (hb :∀ j < ps.length,∀ q,ps[j]? = some q → q.e.ext ≠ ext) :firstX f ext = none :=by
  unfold firstX
  rw [← h.rows8,List.find?_eq_none]
  intros r hr
  obtain ⟨q,hq,rfl⟩ :_ :=List.mem_map.mp hr
  obtain ⟨j,hj,e⟩ :_ :=List.mem_iff_getElem.mp hq
  have :=hb j hj q (by rw [List.getElem?_eq_getElem hj,e])
  simpa using this
theorem flat_mem {P :Params} {ps :List PR} {p :PR} {q :Addr × Obj} (hp :p ∈ ps) (hq :q ∈ one P p) :q ∈ flat P ps :=List.mem_flatMap.mpr ⟨p,hp,hq⟩
end
end
section
open PySem PySem.W PySem.Calls PySem.Spec PyProof.Rows
section
open PyProof.Rows.LCg
noncomputable abbrev refs_src_Q (prog :Program) (w :World) (A :Around) (E :Value → Shared → Prop) (s :Shared) (h₀ :Heap) (L :Addr) (m :Str → Option Value) (env :Env) (elt :Expr) (x x₂ :Str) (scope :Scope) (cl :List (Str × Addr)) (Q :Value → Shared → Prop) (news :List (Addr × Obj)) (l n :Nat) (ps :List PR) (J :PR → Value → Prop) :Prop :=∀ (hh :A.handled = none) (F :Fr h₀ L s.heap m) (N :News h₀ L s.heap news) (hm :(l,listOf (refs ps).toArray n) ∈ news) (hps :∀ p ∈ ps,(p.T,tupOf [.int (p.num :Nat) p.tn,.ref p.x.e]) ∈ news) (hsz :ps.length ≤ 8) (turn :∀ p C oC D ys m₂ (s' :Shared) news' (E' :Value → Shared → Prop),p ∈ ps → NsObj oC m₂ → m₂ x = some (.int (p.num :Nat) p.tn) → m₂ x₂ = some (.ref p.x.e) → (∀ q ∈ news,q ∈ news') → Fr h₀ L s'.heap m → News h₀ L s'.heap ((C,oC) :: (D,lst ys) :: news') →
      wpAny (model prog w) A (eval elt (compEnvC scope cl C env)) (OutL h₀ L m s' ((C,oC) :: (D,lst ys) :: news') (J p)) E' s') (fin :∀ D h tk ys,Paired J ps ys → Fr h₀ L h m → News h₀ L h ((D,lst ys) :: news) → (∀ p ∈ news,p.1 ≠ D) → Q (.ref D) { s with heap :=h,toks :=tk }),wpAny (model prog w) A (pyIter (.ref l)) (PSrc prog w A h₀ L m env elt x x₂ scope cl Q) E s
theorem refs_src_L :∀ prog w A E s h₀ L m env elt x x₂ scope cl Q news l n ps J,refs_src_Q prog w A E s h₀ L m env elt x x₂ scope cl Q news l n ps J :=by
  refine ei8 (h :=?_)
  generalize (ep8 _).1 = prog
  generalize (ep8 _).2.1 = w
  generalize (ep8 _).2.2.1 = A
  generalize (ep8 _).2.2.2.1 = E
  generalize (ep8 _).2.2.2.2.1 = s
  generalize (ep8 _).2.2.2.2.2.1 = h₀
  generalize (ep8 _).2.2.2.2.2.2.1 = L
  generalize (ep8 _).2.2.2.2.2.2.2 = m
  refine ei8 (h :=?_)
  generalize (ep8 _).1 = env
  generalize (ep8 _).2.1 = elt
  generalize (ep8 _).2.2.1 = x
  generalize (ep8 _).2.2.2.1 = x₂
  generalize (ep8 _).2.2.2.2.1 = scope
  generalize (ep8 _).2.2.2.2.2.1 = cl
  generalize (ep8 _).2.2.2.2.2.2.1 = Q
  generalize (ep8 _).2.2.2.2.2.2.2 = news
  refine ei4 (h :=?_)
  generalize (ep4 _).1 = l
  generalize (ep4 _).2.1 = n
  generalize (ep4 _).2.2.1 = ps
  generalize (ep4 _).2.2.2 = J
  delta refs_src_Q
  intros hh F N hm hps hsz turn fin
  have hl :s.heap.IsList l (refs ps).toArray :=⟨_,(N _ hm).1,rfl,_,rfl⟩
  have hlt :l < s.heap.objs.size :=Heap.lt_size (N _ hm).1
  have hne :l ≠ s.heap.objs.size :=Nat.ne_of_lt hlt
  refine wpAny_pyIter_list hl ?_
  have fresh₀ :h₀.get? s.heap.objs.size = none :=next_is_new F
  let Ts :Nat → Addr :=fun j => (ps[j]?.map PR.T).getD 0
  let vals :Nat → Array Value :=fun j => (ps[j]?.map fun p => #[.int (p.num :Nat) p.tn,.ref p.x.e]).getD #[]
  have hsize :(refs ps).toArray.size = ps.length :=by simp [refs]
  have eT :∀ j (h :j < ps.length),Ts j = ps[j].T :=fun j h => by simp [Ts,List.getElem?_eq_getElem h]
  have eV :∀ j (h :j < ps.length),vals j = #[.int (ps[j].num :Nat) ps[j].tn,.ref ps[j].x.e] :=fun j h => by simp [vals,List.getElem?_eq_getElem h]
  have hT :∀ j (h :j < ps.length),s.heap.IsTuple (Ts j) (vals j) :=fun j h => by
    rw [eT j h,eV j h]
    exact ⟨_,(N _ (hps _ (List.getElem_mem h))).1,rfl,_,rfl⟩
  have hTlt :∀ j,j < ps.length → Ts j < s.heap.objs.size :=fun j h => by obtain ⟨_,e,_⟩ :_ :=hT j h; exact Heap.lt_size e
  have W :=WalksU.listOfTuples (prog :=prog) (w :=w) hh s.heap.objs.size l hne (refs ps).toArray Ts vals
    (fun j hj => by rw [hsize] at hj; rw [eT j hj]; simp [refs,List.getElem?_eq_getElem hj]) (fun j hj => by rw [hsize] at hj; exact Nat.ne_of_lt (hTlt j hj))
  have up :∀ b o,s.heap.get? b = some o → (s.heap.push { cls :=.type "list_iterator",data :=.fields #[.ref l,.int 0 0] }).get? b = some o :=fun b o e => Heap.get?_push_of_some _ e
  refine ⟨s.heap.objs.size,_,_,(refs ps).toArray.size,_,_,_,news,(fun i y => ∀ (h :i < ps.length),J ps[i] y),rfl,W.bound,?_,?_,?_,?_,F.push _,fun p hp => ⟨up _ _ (N p hp).1,(N p hp).2⟩,?_,?_,?_,?_,?_⟩
  · rw [hsize,PySem.sizeLine_eq]; omega
  · rintro i v ⟨hi,rfl⟩
    rw [hsize] at hi
    rw [eV i hi]
    exact ⟨_,_,rfl⟩
  · exact ⟨⟨_,Heap.get?_push_size _ rfl,rfl,rfl⟩,hl.at fun o e => up _ o e,fun k hk => by rw [hsize] at hk; exact (hT k hk).at fun o e => up _ o e⟩
  · intros b hb
    show b < (s.heap.push _).objs.size
    rw [Heap.size_push]
    rcases List.mem_cons.mp hb with rfl | hb
    · exact Nat.lt_succ_self _
    · rcases List.mem_cons.mp hb with rfl | hb
      · exact Nat.lt_succ_of_lt hlt
      · obtain ⟨j,hj,rfl⟩ :_ :=List.mem_map.mp hb
        rw [List.mem_range,hsize] at hj
        exact Nat.lt_succ_of_lt (hTlt j hj)
  · intros hb
    rcases List.mem_cons.mp hb with e | hb
    · exact absurd F.ns.lt (e ▸ Nat.lt_irrefl _)
    · rcases List.mem_cons.mp hb with e | hb
      · exact (N _ hm).2.1 e.symm
      · obtain ⟨j,hj,e⟩ :_ :=List.mem_map.mp hb
        rw [List.mem_range,hsize] at hj
        have :=(N _ (hps _ (List.getElem_mem hj))).2.1
        exact this ((eT j hj).symm.trans e)
  · intros b hb
    rw [List.mem_singleton.mp hb]
    exact fresh₀
  · intros p hp hI
    exact absurd (Heap.lt_size (N p hp).1) ((List.mem_singleton.mp hI) ▸ Nat.lt_irrefl _)
  · rintro i v₁ v₂ C oC D ys m₂ h tk news' E' hi ⟨_,hv⟩ hC h1 h2 hs F'' N''
    rw [hsize] at hi
    rw [eV i hi] at hv
    have hv' :v₁ = .int (ps[i].num :Nat) ps[i].tn ∧ v₂ = .ref ps[i].x.e :=by simpa using hv
    obtain ⟨rfl,rfl⟩ :_ :=hv'
    refine wpAny_mono (turn ps[i] C oC D ys m₂ { s with heap :=h,toks :=tk } news' E' (List.getElem_mem hi) hC h1 h2 hs F'' N'') (fun y s'' hy => ?_) fun _ _ e => e
    obtain ⟨hJ,h₃,tk₃,rfl,F₃,N₃⟩ :_ :=hy
    exact outL F₃ N₃ fun hz => hJ
  · intros D h tk ys hlen hys F'' N'' o1
    rw [hsize] at hlen
    exact fin D h tk ys (paired_of hlen fun i h1 h2 => hys i h2 h1) F'' N'' o1
theorem refs_src {prog :Program} {w :World} {A :Around} {E :Value → Shared → Prop} {s :Shared} {h₀ :Heap} {L :Addr} {m :Str → Option Value} {env :Env} {elt :Expr} {x x₂ :Str} {scope :Scope} {cl :List (Str × Addr)} {Q :Value → Shared → Prop}
    {news :List (Addr × Obj)} {l n :Nat} {ps :List PR} (hh :A.handled = none) (F :Fr h₀ L s.heap m) (N :News h₀ L s.heap news)
    (hm :(l,listOf (refs ps).toArray n) ∈ news) (hps :∀ p ∈ ps,(p.T,tupOf [.int (p.num :Nat) p.tn,.ref p.x.e]) ∈ news) (hsz :ps.length ≤ 8) (J :PR → Value → Prop)
    (turn :∀ p C oC D ys m₂ (s' :Shared) news' (E' :Value → Shared → Prop),p ∈ ps → NsObj oC m₂ → m₂ x = some (.int (p.num :Nat) p.tn) → m₂ x₂ = some (.ref p.x.e) → (∀ q ∈ news,q ∈ news') → Fr h₀ L s'.heap m → News h₀ L s'.heap ((C,oC) :: (D,lst ys) :: news') →
      wpAny (model prog w) A (eval elt (compEnvC scope cl C env)) (OutL h₀ L m s' ((C,oC) :: (D,lst ys) :: news') (J p)) E' s')
    (fin :∀ D h tk ys,Paired J ps ys → Fr h₀ L h m → News h₀ L h ((D,lst ys) :: news) → (∀ p ∈ news,p.1 ≠ D) → Q (.ref D) { s with heap :=h,toks :=tk }) :
    wpAny (model prog w) A (pyIter (.ref l)) (PSrc prog w A h₀ L m env elt x x₂ scope cl Q) E s :=refs_src_L prog w A E s h₀ L m env elt x x₂ scope cl Q news l n ps J hh F N hm hps hsz turn fin
end
end
section
section
theorem kw26 :True :=by
  (k_with "msetItem ref int" => (k_extra "r8"))
  trivial
local macro_rules | `(tactic| kpc_g) => `(tactic| k_extra "kpc_g8")
theorem kw27 :True :=by
  (k_with "mRangeRest" => (refine Wait.h ?_))
  (k_with "kpc_g8" => ((intro x9 ws9 ms9 h9 tk9 F9 N9 hw9 hm9 od9 lt9; (try dsimp only); (try k_fold))))
  trivial
theorem raw_nat {i :Nat} {t :Tok} (gh :GH w mg mb G) (st :Stay G s.heap) (hn :HN G s.heap news) (lv :Lv dp un 2) (dm :DM w.params a vs D news) (hi8 :i < 8) :
    wpAny (model rw_tg0048_01.row.prog w) (AR dp un fr gd) (call (.ref 141) [.ref a.d,.int (i :Nat) t]) (RetG s news (IsIL (recD D i))) (fun _ _ => False) s :=by
  have :=raw_entry_ok (fr :=fr) (gd :=gd) (i :=(i :Int)) (t :=t) gh st hn lv dm (by omega) (by omega)
  rwa [Int.toNat_natCast] at this
theorem kw28 :True :=by
  (k_with "q10" => ((refine useIL (raw_nat (by assumption) (by ktr_unf) (by ktr_units) (by ktr_room) (by tb_rel) (by assumption)) (by k_asm) (by k_asm) ?_; kst_facts; (have e10 :=IntsAre.length (by assumption)))))
  (k_with "mcall ref" => (((with_reducible show wpAny _ _ (call (.ref 141) _) _ _ _); first | k_extra "q10" | k_dflt (k_extra "q10"))))
  (k_with "q11" => ((refine useV (matches_ok (by assumption) (by ktr_unf) (by ktr_units) (by ktr_room) (by k_mem) (by assumption) (by k_mem) (by assumption) (by assumption) (by simp only [List.length_take,List.length_drop]; omega)) (by k_asm) (by k_asm) ?_; kst_mem)))
  (k_with "mcall ref" => (((with_reducible show wpAny _ _ (call (.ref 245) _) _ _ _); first | k_extra "q11" | k_dflt (k_extra "q11"))))
  (k_with "q12" => ((refine useE (entry_from_some (by assumption) (by ktr_unf) (by ktr_units) (by ktr_room) (by tb_rel) (by k_mem) (by assumption) (by assumption) (ne_by (by assumption) (by assumption))) (by k_asm) (by k_asm) ?_; kpc_g)))
  (k_with "mcall ref" => (((with_reducible show wpAny _ _ (call (.ref 134) _) _ _ _); first | k_extra "q12" | k_dflt (k_extra "q12"))))
  (k_with "mcall builtin:list.append" => (k_extra "r0"))
  trivial
noncomputable def findF (D :List Int) (u :Int) (ps :List Int) (i :Nat) :Option Ent :=if (recD D i).getD 0 0 = u ∧ ((ps.zip ((recD D i).drop 1 |>.take 11)).all matchOne) = true then some (entOf (recD D i)) else none
section
variable (w dp un fr gd s mg mb G news a vs D)
noncomputable abbrev find_ok_Q (l n :Nat) (ws :List Value) (ps :List Int) (u :Int) (t :Tok) :Prop :=∀ (gh :GH w mg mb G) (st :Stay G s.heap) (hn :HN G s.heap news) (lv :Lv dp un 6) (dm :DM w.params a vs D news) (q1 :(l,listOf ws.toArray n) ∈ news) (qI :IntsAre ws ps) (ql :ps.length = 11) (hu :u ≠ 229),wpAny (model rw_tg0048_01.row.prog w) (AR dp un fr gd) (call (.ref 259) [.ref a.d,.int u t,.ref l]) (RetG s news (IsPairs w.params (findF D u ps))) (fun _ _ => False) s
end
theorem find_ok_L :∀ w dp un fr gd s mg mb G news a vs D l n ws ps u t,find_ok_Q w dp un fr gd s mg mb G news a vs D l n ws ps u t :=by
  intro w dp un fr gd s mg mb G news a vs D l n ws ps u t
  delta find_ok_Q
  intro gh st hn lv dm q1 qI ql hu
  have dm0 :=dm
  obtain ⟨m1,m2,m3,m4,hI,hl⟩ :=dm
  cell_enter
  k_steps
  rename Fr _ _ _ _ => F1
  rename News _ _ _ _ => N1
  refine ⟨range_grow (P :=w.params) (f :=findF D u ps) (But2 _ (Str.ofString "number") (Str.ofString "octets")) ?_ ?_ but2_start (fun p hp => Nat.ne_of_lt ((by assumption :∀ p ∈ news,p.1 < _) p hp)) (allLt (by assumption))⟩
  · (intro i m₁ t h tk it qs n' hi; rintro ⟨v1,v2,rfl⟩; intro hP hF hNI F' N')
    clear F1 N1
    simp only [Int.zero_add] at F'
    have lq :=hP.len
    have lr :=recD_length hl hi
    have e11 :min (1 + 11 :Int).toNat (recD D i).length - 1 = 11 :=by rw [lr]; decide
    k_steps
    · refine turn_grow hP hF hNI ?_ hi (entOf_ok lr) (by assumption) (by assumption) (by assumption) (by assumption) (by assumption) (by ktr_rel) (by k_asm) (by k_asm) but2_again
      unfold findF
      rw [if_pos ⟨by assumption,by rw [← e11]; assumption⟩]
    · refine turn_skip hP hF hNI ?_ (by k_asm) (by k_asm) (by ktr_rel) but2_again
      unfold findF
      rw [if_neg]
      rintro ⟨_,hc⟩
      rw [← e11] at hc
      first | exact absurd hc (by assumption) | exact absurd (Eq.trans (Eq.symm hc) (by assumption :(ps.zip (List.take _ (List.drop 1 (recD D i)))).all matchOne = false)) (by decide)
    · refine turn_skip hP hF hNI ?_ (by k_asm) (by k_asm) (by ktr_rel) but2_again
      unfold findF
      rw [if_neg]
      rintro ⟨hc,_⟩
      exact absurd hc (by assumption)
  · (intro m₁ qs n' h tk; rintro ⟨v1,v2,rfl⟩; intro hP hF F' N')
    clear F1 N1
    k_steps
    dsimp only
    exact retPairs (by k_asm) (by k_asm) (by assumption) (by assumption) hP hF
theorem find_ok {l n :Nat} {ws :List Value} {ps :List Int} {u :Int} {t :Tok} :find_ok_Q w dp un fr gd s mg mb G news a vs D l n ws ps u t :=find_ok_L w dp un fr gd s mg mb G news a vs D l n ws ps u t
end
theorem kw29 :True :=by
  (k_with "mRangeRest" => (refine toStop ?_))
  (k_with "mcall builtin:list.append" => (refine toStop ?_))
  (k_with "mcall ref" => (refine toStop ?_))
  (k_with "msetItem ref int" => (refine toStop ?_))
  trivial
end
section
section
theorem kw30 :True :=by
  (k_with "msetItem ref int" => (k_extra "r8"))
  trivial
theorem kw31 :True :=by
  (k_with "q13" => ((refine useP (find_ok (by assumption) (by ktr_unf) (by ktr_units) (by ktr_room) (by tb_rel) (by k_mem) (by assumption) (by assumption) (by assumption)) (by k_asm) (by k_asm) ?_; kpc_obj)))
  (k_with "mcall ref" => (((with_reducible show wpAny _ _ (call (.ref 259) _) _ _ _); first | k_extra "q13" | k_dflt (k_extra "q13"))))
  (k_with "mexec For Name Call cons nil" => (((rename Fr _ _ _ _ => lF'); (with_unfolding_all refine' For_turns lF' ?_; k_whole))))
  trivial
section
variable (w dp un fr gd s mg mb G news a vs D)
noncomputable abbrev find_extent_ok_Q (l n :Nat) (ws :List Value) (ps :List Int) (u ext :Int) (t t' :Tok) :Prop :=∀ (gh :GH w mg mb G) (st :Stay G s.heap) (hn :HN G s.heap news) (lv :Lv dp un 7) (dm :DM w.params a vs D news) (q1 :(l,listOf ws.toArray n) ∈ news) (qI :IntsAre ws ps) (ql :ps.length = 11) (hu :u ≠ 229),wpAny (model rw_tg0048_01.row.prog w) (AR dp un fr gd) (call (.ref 266) [.ref a.d,.int u t,.ref l,.int ext t']) (RetG s news fun r tl => match firstX (findF D u ps) ext with | none => IsN r tl | some row => IsOne w.params row r tl) (fun _ _ => False) s
end
theorem find_extent_ok_L :∀ w dp un fr gd s mg mb G news a vs D l n ws ps u ext t t',find_extent_ok_Q w dp un fr gd s mg mb G news a vs D l n ws ps u ext t t' :=by
  intro w dp un fr gd s mg mb G news a vs D l n ws ps u ext t t'
  delta find_extent_ok_Q
  intro gh st hn lv dm q1 qI ql hu
  have dm0 :=dm
  obtain ⟨m1,m2,m3,m4,hI,hl⟩ :=dm
  cell_enter
  k_steps
  rename Fr _ _ _ _ => F1
  rename News _ _ _ _ => N1
  rename Prs _ _ _ => hP
  rename List PR => qs
  rename Apart _ _ => hsep
  generalize hled :(_ :: (flat w.params _ ++ news) :List (Addr × Obj)) = led at N1
  refine list_turns (items :=refs qs) (But1 _ (Str.ofString "pair")) (fun I i nw => nw = led ∧ (∀ p ∈ led,p.1 < I) ∧ ∀ j < i,∀ q :PR,qs[j]? = some q → q.e.ext ≠ ext) (by rfl) (by exact F1) (by exact N1) (fun p hp => hp) (by rw [← hled]; exact List.mem_cons_self) (fun I i nw hJ => by rw [hJ.1,← hled]; exact List.mem_cons_self) ?_ but1_start (fun I h => ⟨rfl,h,fun _ h => absurd h (Nat.not_lt_zero _)⟩) ?_
  · (intro I i v m₁ nw h tk it lt hv; rintro ⟨v1,rfl⟩; rintro ⟨rfl,lt',hb⟩; intro F' N')
    clear F1 N1
    rw [List.getElem?_map] at hv
    obtain ⟨p,hq,hv'⟩ :=Option.map_eq_some_iff.mp hv
    · have hv' :Value.ref p.T = v :=hv'
      subst hv'
      have hp :p ∈ qs :=List.mem_of_getElem? hq
      have in1 :∀ q ∈ one w.params p,q ∈ nw :=fun q hq => by rw [← hled]; exact List.mem_cons_of_mem _ (List.mem_append_left _ (flat_mem hp hq))
      have f1 :(p.T,tupOf [.int (p.num :Nat) p.tn,.ref p.x.e]) ∈ nw :=in1 _ List.mem_cons_self
      have f2 :(p.x.e,instObj 74 p.x.ed) ∈ nw :=in1 _ (by simp)
      have f3 :(p.x.ed,dictOf (entD w.params p.x p.e.user p.e.ext p.e.sp p.e.ct) 6) ∈ nw :=in1 _ (by simp)
      k_steps
      · dsimp only [TurnEnd]
        have hx :=firstX_some hP hq (by assumption) hb
        refine retG (one w.params p) (by k_asm) (by k_asm) (by assumption) (by assumption) (fun q hq' => List.mem_cons_of_mem _ (by rw [← hled]; exact List.mem_cons_of_mem _ (List.mem_append_right _ hq'))) (fun q hq' => List.mem_cons_of_mem _ (in1 q hq')) (fun q hq' r hr => hsep q (List.mem_cons_of_mem _ (flat_mem hp hq')) r hr) ?_
        rw [hx]
        exact ⟨p,rfl,rfl,hP.ok p hp,rfl⟩
      · refine turnEnd2 _ (by k_asm) (by k_asm) (off_one lt') but1_again ⟨rfl,lt',?_⟩
        intro j hj q hq'
        by_cases e :j = i
        · subst e
          rw [hq] at hq'
          have e' :=Option.some.inj hq'
          subst e'
          assumption
        · exact hb j (by omega) q hq'
  · (intro I m₁ nw h tk; rintro ⟨v1,rfl⟩; rintro ⟨rfl,_,hb⟩; intro F' N')
    clear F1 N1
    k_steps
    dsimp only
    refine retG0 (by k_asm) (by k_asm) (by assumption) (by assumption) (fun q hq' => by rw [← hled]; exact List.mem_cons_of_mem _ (List.mem_append_right _ hq')) ?_
    rw [firstX_none hP (by simpa using hb)]
    exact ⟨rfl,rfl⟩
theorem find_extent_ok {l n :Nat} {ws :List Value} {ps :List Int} {u ext :Int} {t t' :Tok} :find_extent_ok_Q w dp un fr gd s mg mb G news a vs D l n ws ps u ext t t' :=find_extent_ok_L w dp un fr gd s mg mb G news a vs D l n ws ps u ext t t'
end
theorem kw32 :True :=by
  (k_with "mcall ref" => (refine toStop ?_))
  (k_with "mexec For Name Call cons nil" => (refine toStop ?_))
  (k_with "msetItem ref int" => (refine toStop ?_))
  trivial
end
section
section
theorem kw33 :True :=by
  (k_with "msetItem ref int" => (k_extra "r8"))
  trivial
theorem kw34 :True :=by
  (k_with "mcall ref" => (((with_reducible show wpAny _ _ (call (.ref 259) _) _ _ _); first | k_extra "q13" | k_dflt (k_extra "q13"))))
  trivial
theorem sub_two {x I :Addr} {o o' o1 o2 :Obj} {R :List (Addr × Obj)} (la :x < I) (R0 :∀ p ∈ R,p.1 ≠ x) :∀ p ∈ ((I + 1,o1) :: (I,o2) :: [] :List (Addr × Obj)) ++ (x,o') :: R,p ∈ (x,o') :: dropN x ((I + 1,o1) :: (I,o2) :: (x,o) :: R) :=fun p hp => by
  simp only [List.cons_append,List.nil_append,List.mem_cons] at hp
  rcases hp with rfl | rfl | rfl | hp
  · exact List.mem_cons_of_mem _ (mem_dropN.mpr ⟨by simp,Nat.ne_of_gt (Nat.lt_succ_of_lt la)⟩)
  · exact List.mem_cons_of_mem _ (mem_dropN.mpr ⟨by simp,Nat.ne_of_gt la⟩)
  · exact List.mem_cons_self
  · exact List.mem_cons_of_mem _ (mem_dropN.mpr ⟨by simp [hp],R0 p hp⟩)
theorem len_refs {prog :Program} {w :World} {A :Around} {E :Value → Shared → Prop} {s :Shared} {h₀ :Heap} {L F :Addr} {news :List (Addr × Obj)} {ps :List PR} {n :Nat} {Q :Value → Shared → Prop}
    (N :News h₀ L s.heap news) (hm :(F,listOf (refs ps).toArray n) ∈ news) (hl :ps.length ≤ 8) (h :Q (.int (ps.length :Nat) (s.toks + 1)) { s with toks :=s.toks + 1 + 1 }) :wpAny (model prog w) A (call (.builtin "len") [.ref F]) Q E s :=
  KM.len_K N hm (by simp) (by omega) h
theorem Prs.count {f :Nat → Option Ent} {ps :List PR} (h :Prs f 8 ps) :ps.length = (rowsF f).length :=by rw [← h.rows8,List.length_map]
theorem kw35 :True :=by
  (k_with "mcall builtin:len" => ((refine len_refs (by k_asm) (by k_mem) (Prs.len (by assumption)) ?_)))
  trivial
section
variable (w dp un fr gd s mg mb G news a vs D)
noncomputable abbrev exists_ok_Q (l n :Nat) (ws :List Value) (ps :List Int) (u :Int) (t :Tok) :Prop :=∀ (gh :GH w mg mb G) (st :Stay G s.heap) (hn :HN G s.heap news) (lv :Lv dp un 7) (dm :DM w.params a vs D news) (q1 :(l,listOf ws.toArray n) ∈ news) (qI :IntsAre ws ps) (ql :ps.length = 11) (hu :u ≠ 229),wpAny (model rw_tg0048_01.row.prog w) (AR dp un fr gd) (call (.ref 273) [.ref a.d,.int u t,.ref l]) (RetG s news (IsB (decide (0 < (rowsF (findF D u ps)).length)))) (fun _ _ => False) s
end
theorem exists_ok_L :∀ w dp un fr gd s mg mb G news a vs D l n ws ps u t,exists_ok_Q w dp un fr gd s mg mb G news a vs D l n ws ps u t :=by
  intro w dp un fr gd s mg mb G news a vs D l n ws ps u t
  delta exists_ok_Q
  intro gh st hn lv dm q1 qI ql hu
  have dm0 :=dm
  obtain ⟨m1,m2,m3,m4,hI,hl⟩ :=dm
  cell_enter
  k_steps
  tb_start
  rename Prs _ _ _ => hP
  rw [← hP.count]
  exact ⟨rfl,by simp⟩
theorem exists_ok {l n :Nat} {ws :List Value} {ps :List Int} {u :Int} {t :Tok} :exists_ok_Q w dp un fr gd s mg mb G news a vs D l n ws ps u t :=exists_ok_L w dp un fr gd s mg mb G news a vs D l n ws ps u t
theorem kw36 :True :=by
  (k_with "q14" => ((refine useI (record_place_ok (by assumption) (by ktr_unf) (by ktr_units) (by ktr_room) (by tb_rel) (by assumption) (by assumption) (by assumption) (by assumption)) (by k_asm) (by k_asm) ?_; kst_same)))
  (k_with "mcall ref" => (((with_reducible show wpAny _ _ (call (.ref 221) _) _ _ _); first | k_extra "q14" | k_dflt (k_extra "q14"))))
  trivial
theorem rec_e1 {b i :Int} (b0 :0 ≤ b) (i0 :0 ≤ i) :(b * 128 + i * 32).toNat = 128 * b.toNat + 32 * i.toNat :=by
  obtain ⟨x,rfl⟩ :_ :=Int.eq_ofNat_of_zero_le b0
  obtain ⟨y,rfl⟩ :_ :=Int.eq_ofNat_of_zero_le i0
  show ((x * 128 + y * 32 :Nat) :Int).toNat = 128 * x + 32 * y
  rw [Int.toNat_natCast,Nat.mul_comm x,Nat.mul_comm y]
theorem rec_e3 {b i :Int} (k :Nat) (b0 :0 ≤ b) (i0 :0 ≤ i) :(b * 128 + i * 32 + (k :Int)).toNat = 128 * b.toNat + 32 * i.toNat + k :=by
  obtain ⟨x,rfl⟩ :_ :=Int.eq_ofNat_of_zero_le b0
  obtain ⟨y,rfl⟩ :_ :=Int.eq_ofNat_of_zero_le i0
  show ((x * 128 + y * 32 + k :Nat) :Int).toNat = 128 * x + 32 * y + k
  rw [Int.toNat_natCast,Nat.mul_comm x,Nat.mul_comm y]
theorem rec_o {b i :Int} (b1 :b < 11) (i1 :i < 4) :128 * b.toNat + 32 * i.toNat + 32 ≤ 1408 :=by
  have h1 :b.toNat ≤ 10 :=Int.toNat_le.mpr (Int.lt_add_one_iff.mp b1)
  have h2 :i.toNat ≤ 3 :=Int.toNat_le.mpr (Int.lt_add_one_iff.mp i1)
  generalize b.toNat = x at h1
  generalize i.toNat = y at h2
  clear b1 i1
  omega
theorem rec_p {b :Int} (i :Int) (b0 :2 ≤ b) :256 ≤ 128 * b.toNat + 32 * i.toNat :=
  Nat.le_trans (Nat.mul_le_mul_left 128 (Int.le_toNat (Int.le_trans (by decide) b0) |>.mpr b0)) (Nat.le_add_right _ _)
theorem rec_e2 {b i :Int} {n :Nat} (b0 :0 ≤ b) (b1 :b < 11) (i0 :0 ≤ i) (i1 :i < 4) (hl :n = 1408) :min (b * 128 + i * 32 + 32).toNat n - (b * 128 + i * 32).toNat = 32 :=by
  subst hl
  have h :=rec_o b1 i1
  rw [show b * 128 + i * 32 + 32 = b * 128 + i * 32 + ((32 :Nat) :Int) from rfl,rec_e3 32 b0 i0,rec_e1 b0 i0,Nat.min_eq_left h]
  exact Nat.add_sub_cancel_left _ _
section
variable (w dp un fr gd s mg mb G news a vs D)
noncomputable abbrev read_record_ok_Q (b i :Int) (t t' :Tok) :Prop :=∀ (gh :GH w mg mb G) (st :Stay G s.heap) (hn :HN G s.heap news) (lv :Lv dp un 4) (dm :DM w.params a vs D news) (b0 :0 ≤ b) (b1 :b < 11) (i0 :0 ≤ i) (i1 :i < 4),wpAny (model rw_tg0048_01.row.prog w) (AR dp un fr gd) (call (.ref 228) [.ref a.d,.int b t,.int i t']) (RetG s news (IsIL ((D.drop (128 * b.toNat + 32 * i.toNat)).take 32))) (fun _ _ => False) s
end
theorem read_record_ok_L :∀ w dp un fr gd s mg mb G news a vs D b i t t',read_record_ok_Q w dp un fr gd s mg mb G news a vs D b i t t' :=by
  intro w dp un fr gd s mg mb G news a vs D b i t t'
  delta read_record_ok_Q
  intro gh st hn lv dm b0 b1 i0 i1
  have dm0 :=dm
  obtain ⟨m1,m2,m3,m4,hI,hl⟩ :=dm
  cell_enter
  k_steps
  ktr_step
  have e1 :=rec_e1 b0 i0
  have e2 :=rec_e2 b0 b1 i0 i1 hl
  rw [← e1,← e2]
  assumption
theorem read_record_ok {b i :Int} {t t' :Tok} :read_record_ok_Q w dp un fr gd s mg mb G news a vs D b i t t' :=read_record_ok_L w dp un fr gd s mg mb G news a vs D b i t t'
theorem kw37 :True :=by
  (k_with "mcall ref" => (((with_reducible show wpAny _ _ (call (.ref 113) _) _ _ _); first | k_extra "q7" | k_dflt (k_extra "q7"))))
  (k_with "mexec For Tuple Call cons nil" => (((rename Fr _ _ _ _ => lF'); (with_unfolding_all refine' For_turns lF' ?_; k_whole))))
  (k_with "mexec For Tuple Call" => (k_extra "r6"))
  trivial
section
variable (w dp un fr gd s mg mb G news a vs D)
noncomputable abbrev write_record_ok_Q (l n :Nat) (ws :List Value) (os :List Int) (b j :Int) (t t' :Tok) :Prop :=∀ (gh :GH w mg mb G) (st :Stay G s.heap) (hn :HN G s.heap news) (lv :Lv dp un 4) (dm :DM w.params a vs D news) (q1 :(l,listOf ws.toArray n) ∈ news) (qI :IntsAre ws os) (ql :os.length = 32) (b0 :0 ≤ b) (b1 :b < 11) (i0 :0 ≤ j) (i1 :j < 4),wpAny (model rw_tg0048_01.row.prog w) (AR dp un fr gd) (call (.ref 235) [.ref a.d,.int b t,.int j t',.ref l]) (MutG s news a.l (Lays a.n (lay D (128 * b.toNat + 32 * j.toNat) os))) (fun _ _ => False) s
end
theorem write_record_ok_L :∀ w dp un fr gd s mg mb G news a vs D l n ws os b j t t',write_record_ok_Q w dp un fr gd s mg mb G news a vs D l n ws os b j t t' :=by
  intro w dp un fr gd s mg mb G news a vs D l n ws os b j t t'
  delta write_record_ok_Q
  intro gh st hn lv dm q1 qI ql b0 b1 i0 i1
  have dm0 :=dm
  obtain ⟨m1,m2,m3,m4,hI,hl⟩ :=dm
  have e9 :=qI.length
  cell_enter
  k_steps
  rename Fr _ _ _ _ => F1
  rename News _ _ _ _ => N1
  have N2 :=News.first (x :=a.l) (o :=listOf vs.toArray a.n) N1 (by k_mem)
  have n1 :a.d ≠ a.l :=News.ne N1 (o :=instObj 53 a.dd) (o' :=listOf vs.toArray a.n) (by k_mem) (by k_mem) inst_list
  have n2 :a.dd ≠ a.l :=News.ne N1 (o :=dictOf (diskD w.params a) 7) (o' :=listOf vs.toArray a.n) (by k_mem) (by k_mem) dict_list'
  have n3 :l ≠ a.l :=News.ne N1 (o :=listOf ws.toArray n) (o' :=listOf vs.toArray a.n) (by k_mem) (by k_mem) (list_ne (by rw [e9,hI.length]; omega))
  generalize hR :dropN a.l _ = R at N2
  have R0 :∀ p ∈ R,p.1 ≠ a.l :=by rw [← hR]; exact dropN_ne
  have R1 :(a.d,instObj 53 a.dd) ∈ R :=by rw [← hR]; exact mem_dropN.mpr ⟨by k_mem,n1⟩
  have R2 :(a.dd,dictOf (diskD w.params a) 7) ∈ R :=by rw [← hR]; exact mem_dropN.mpr ⟨by k_mem,n2⟩
  have R3 :(l,listOf ws.toArray n) ∈ R :=by rw [← hR]; exact mem_dropN.mpr ⟨by k_mem,n3⟩
  refine enum_ints (fun i nw => ∃ vs' :List Value,nw = (a.l,listOf vs'.toArray a.n) :: R ∧ IntsAre vs' (lay D (128 * b.toNat + 32 * j.toNat) (os.take i))) (by rfl) (by exact F1) (by exact N2) (List.mem_cons_of_mem _ R3) qI ?_ ?_ ⟨vs,rfl,by rw [List.take_zero,lay_nil (by rw [hl]; exact Nat.le_trans (Nat.le_add_right _ 32) (rec_o b1 i1))]; exact hI⟩ ?_
  · (intro i nw; rintro ⟨vs',rfl,_⟩)
    exact List.mem_cons_of_mem _ R3
  · (intro I i x t t' T nw h tk v1 v2 o1 o2 hlt hi hx; rintro ⟨vs',rfl,hI'⟩; intro hT F' N')
    have lenD :=hI'.length
    clear N1 N2 F1
    have la :=lt_head hlt
    have lenL :(lay D (128 * b.toNat + 32 * j.toNat) (os.take i)).length = 1408 :=by rw [lay_length (by rw [List.length_take,hl,ql]; exact Nat.le_trans (Nat.add_le_add_left (Nat.min_le_right _ _) _) (rec_o b1 i1)),hl]
    k_steps
    refine turnEnd2 _ (by k_asm) (by k_asm) (off_two (lt_same hlt)) but2_again ⟨_,rfl,?_⟩
    have this :IntsAre (vs'.set (b * 128 + j * 32 + (i :Int)).toNat (.int x t')) ((lay D (128 * b.toNat + 32 * j.toNat) (os.take i)).set (b * 128 + j * 32 + (i :Int)).toNat x) :=by assumption
    rw [rec_e3 i b0 i0,lay_set (by rw [hl,ql]; exact rec_o b1 i1) hx] at this
    rw [rec_e3 i b0 i0]
    exact this
  · (intro nw h tk v1 v2; rintro ⟨vs',rfl,hI'⟩; intro F' N')
    clear N1 N2 F1
    rw [List.take_length] at hI'
    k_steps
    refine mutG [] (by assumption) (by assumption) (by assumption) (by assumption) ?_ List.mem_cons_self (fun _ h => nomatch h) (fun _ h => nomatch h) ⟨rfl,rfl,vs',rfl,hI'⟩
    intro p hp np
    refine List.mem_cons_of_mem _ ?_
    rw [← hR]
    exact mem_dropN.mpr ⟨by (repeat (first | exact hp | refine List.mem_cons_of_mem _ ?_)),np⟩
theorem write_record_ok {l n :Nat} {ws :List Value} {os :List Int} {b j :Int} {t t' :Tok} :write_record_ok_Q w dp un fr gd s mg mb G news a vs D l n ws os b j t t' :=write_record_ok_L w dp un fr gd s mg mb G news a vs D l n ws os b j t t'
end
theorem kw38 :True :=by
  (k_with "mcall builtin:len" => (refine toStop ?_))
  (k_with "mcall ref" => (refine toStop ?_))
  (k_with "mexec For Tuple Call" => (refine toStop ?_))
  (k_with "mexec For Tuple Call cons nil" => (refine toStop ?_))
  (k_with "msetItem ref int" => (refine toStop ?_))
  trivial
end
section
section
theorem kw39 :True :=by
  (k_with "msetItem ref int" => (k_extra "r8"))
  (k_with "mRangeRest" => (refine Wait.h ?_))
  (k_with "mexec For Tuple Call" => (k_extra "r6"))
  trivial
theorem kw40 :True :=by
  (k_with "mcall ref" => (((with_reducible show wpAny _ _ (call (.ref 141) _) _ _ _); first | k_extra "q10" | k_dflt (k_extra "q10"))))
  (k_with "q15" => ((refine useV (entry_from_none (by assumption) (by ktr_unf) (by ktr_units) (by ktr_room) (by tb_rel) (by k_mem) (by assumption) (by assumption) (by assumption)) (by k_asm) (by k_asm) ?_; kst_mem)))
  (k_with "mcall ref" => (((with_reducible show wpAny _ _ (call (.ref 134) _) _ _ _); first | k_extra "q15" | k_dflt (k_extra "q15"))))
  (k_with "q16" => ((refine useE (entry_from_some (by assumption) (by ktr_unf) (by ktr_units) (by ktr_room) (by tb_rel) (by k_mem) (by assumption) (by assumption) (by assumption)) (by k_asm) (by k_asm) ?_; kpc_g)))
  (k_with "mcall ref" => (((with_reducible show wpAny _ _ (call (.ref 134) _) _ _ _); first | k_extra "q16" | k_dflt (k_extra "q16"))))
  trivial
section
variable (w dp un fr gd s mg mb G news a vs D)
noncomputable abbrev read_none_Q (i :Nat) (t :Tok) :Prop :=∀ (gh :GH w mg mb G) (st :Stay G s.heap) (hn :HN G s.heap news) (lv :Lv dp un 6) (dm :DM w.params a vs D news) (hi8 :i < 8) (h0 :(recD D i).getD 0 0 = 229),wpAny (model rw_tg0048_01.row.prog w) (AR dp un fr gd) (call (.ref 148) [.ref a.d,.int (i :Nat) t]) (RetG s news IsN) (fun _ _ => False) s
end
theorem read_none_L :∀ w dp un fr gd s mg mb G news a vs D i t,read_none_Q w dp un fr gd s mg mb G news a vs D i t :=by
  intro w dp un fr gd s mg mb G news a vs D i t
  delta read_none_Q
  intro gh st hn lv dm hi8 h0
  have dm0 :=dm
  obtain ⟨m1,m2,m3,m4,hI,hl⟩ :=dm
  have lr :=recD_length hl hi8
  cell_enter
  k_steps
  tb_start
  exact ⟨rfl,rfl⟩
theorem read_none {i :Nat} {t :Tok} :read_none_Q w dp un fr gd s mg mb G news a vs D i t :=read_none_L w dp un fr gd s mg mb G news a vs D i t
section
variable (w dp un fr gd s mg mb G news a vs D)
noncomputable abbrev read_some_Q (i :Nat) (t :Tok) :Prop :=∀ (gh :GH w mg mb G) (st :Stay G s.heap) (hn :HN G s.heap news) (lv :Lv dp un 6) (dm :DM w.params a vs D news) (hi8 :i < 8) (h0 :(recD D i).getD 0 0 ≠ 229),wpAny (model rw_tg0048_01.row.prog w) (AR dp un fr gd) (call (.ref 148) [.ref a.d,.int (i :Nat) t]) (RetG s news (IsEnt w.params (entOf (recD D i)))) (fun _ _ => False) s
end
theorem read_some_L :∀ w dp un fr gd s mg mb G news a vs D i t,read_some_Q w dp un fr gd s mg mb G news a vs D i t :=by
  intro w dp un fr gd s mg mb G news a vs D i t
  delta read_some_Q
  intro gh st hn lv dm hi8 h0
  have dm0 :=dm
  obtain ⟨m1,m2,m3,m4,hI,hl⟩ :=dm
  have lr :=recD_length hl hi8
  cell_enter
  k_steps
  exact passE (by k_asm) (by k_asm) (by assumption) (by assumption) (by assumption) (by ktr_rel) (by assumption) (by assumption) (by assumption)
theorem read_some {i :Nat} {t :Tok} :read_some_Q w dp un fr gd s mg mb G news a vs D i t :=read_some_L w dp un fr gd s mg mb G news a vs D i t
theorem kw41 :True :=by
  (k_with "q17" => ((refine useV (read_none (by assumption) (by ktr_unf) (by ktr_units) (by ktr_room) (by tb_rel) (by assumption) (by assumption)) (by k_asm) (by k_asm) ?_; kst_mem)))
  (k_with "mcall ref" => (((with_reducible show wpAny _ _ (call (.ref 148) _) _ _ _); first | k_extra "q17" | k_dflt (k_extra "q17"))))
  (k_with "q18" => ((refine useE (read_some (by assumption) (by ktr_unf) (by ktr_units) (by ktr_room) (by tb_rel) (by assumption) (by assumption)) (by k_asm) (by k_asm) ?_; kpc_g)))
  (k_with "mcall ref" => (((with_reducible show wpAny _ _ (call (.ref 148) _) _ _ _); first | k_extra "q18" | k_dflt (k_extra "q18"))))
  (k_with "mcall builtin:list.append" => (k_extra "r0"))
  trivial
noncomputable def liveF (D :List Int) (i :Nat) :Option Ent :=if (recD D i).getD 0 0 = 229 then none else some (entOf (recD D i))
section
variable (w dp un fr gd s mg mb G news a vs D)
noncomputable abbrev live_entries_ok_Q :Prop :=∀ (gh :GH w mg mb G) (st :Stay G s.heap) (hn :HN G s.heap news) (lv :Lv dp un 7) (dm :DM w.params a vs D news),wpAny (model rw_tg0048_01.row.prog w) (AR dp un fr gd) (call (.ref 183) [.ref a.d]) (RetG s news (IsPairs w.params (liveF D))) (fun _ _ => False) s
end
theorem live_entries_ok_L :∀ w dp un fr gd s mg mb G news a vs D,live_entries_ok_Q w dp un fr gd s mg mb G news a vs D :=by
  intro w dp un fr gd s mg mb G news a vs D
  delta live_entries_ok_Q
  intro gh st hn lv dm
  have dm0 :=dm
  obtain ⟨m1,m2,m3,m4,hI,hl⟩ :=dm
  cell_enter
  k_steps
  rename Fr _ _ _ _ => F1
  rename News _ _ _ _ => N1
  refine ⟨range_grow (P :=w.params) (f :=liveF D) (But2 _ (Str.ofString "number") (Str.ofString "entry")) ?_ ?_ but2_start (fun p hp => Nat.ne_of_lt ((by assumption :∀ p ∈ news,p.1 < _) p hp)) (allLt (by assumption))⟩
  · (intro i m₁ t h tk it qs n' hi; rintro ⟨v1,v2,rfl⟩; intro hP hF hNI F' N')
    clear F1 N1
    simp only [Int.zero_add] at F'
    have lq :=hP.len
    have lr :=recD_length hl hi
    by_cases hz :(recD D i).getD 0 0 = 229
    · k_steps
      refine turn_skip hP hF hNI ?_ (by k_asm) (by k_asm) (by ktr_rel) but2_again
      unfold liveF
      rw [if_pos hz]
    · k_steps
      refine turn_grow hP hF hNI ?_ hi (entOf_ok lr) (by assumption) (by assumption) (by assumption) (by assumption) (by assumption) (by ktr_rel) (by k_asm) (by k_asm) but2_again
      unfold liveF
      rw [if_neg hz]
  · (intro m₁ qs n' h tk; rintro ⟨v1,v2,rfl⟩; intro hP hF F' N')
    clear F1 N1
    k_steps
    dsimp only
    exact retPairs (by k_asm) (by k_asm) (by assumption) (by assumption) hP hF
theorem live_entries_ok :live_entries_ok_Q w dp un fr gd s mg mb G news a vs D :=live_entries_ok_L w dp un fr gd s mg mb G news a vs D
end
theorem kw42 :True :=by
  (k_with "mRangeRest" => (refine toStop ?_))
  (k_with "mcall builtin:list.append" => (refine toStop ?_))
  (k_with "mcall ref" => (refine toStop ?_))
  (k_with "mexec For Tuple Call" => (refine toStop ?_))
  (k_with "msetItem ref int" => (refine toStop ?_))
  trivial
end
section
section
theorem kw43 :True :=by
  (k_with "msetItem ref int" => (k_extra "r8"))
  trivial
theorem kw44 :True :=by
  (k_with "mRangeRest" => (refine Wait.h ?_))
  trivial
noncomputable def freeE (D :List Int) :Option Nat :=(List.range 8).find? fun i => decide (D.getD (32 * i) 0 = 229)
theorem freeE_some {D :List Int} {i :Nat} (hi :i < 8) (h :∀ j < i,D.getD (32 * j) 0 ≠ 229) (he :D.getD (32 * i) 0 = 229) :freeE D = some i :=by
  unfold freeE
  rw [List.find?_range_eq_some]
  simp only [decide_eq_true_eq]
  exact ⟨he,List.mem_range.mpr hi,fun j hj => by rw [decide_eq_false (h j hj)]; rfl⟩
theorem freeE_none {D :List Int} (h :∀ j < 8,D.getD (32 * j) 0 ≠ 229) :freeE D = none :=by
  unfold freeE
  rw [List.find?_eq_none]
  intros j hj
  simp only [decide_eq_true_eq]
  exact h j (List.mem_range.mp hj)
noncomputable def FreeP (D :List Int) (r :Value) (tl :List (Addr × Obj)) :Prop :=tl = [] ∧ ((∃ i t,freeE D = some i ∧ r = .int (i :Nat) t) ∨ (freeE D = none ∧ r = .none))
section
variable (w dp un fr gd s mg mb G news a vs D)
noncomputable abbrev free_entry_ok_Q :Prop :=∀ (gh :GH w mg mb G) (st :Stay G s.heap) (hn :HN G s.heap news) (lv :Lv dp un 1) (dm :DM w.params a vs D news),wpAny (model rw_tg0048_01.row.prog w) (AR dp un fr gd) (call (.ref 176) [.ref a.d]) (RetG s news (FreeP D)) (fun _ _ => False) s
end
theorem free_entry_ok_L :∀ w dp un fr gd s mg mb G news a vs D,free_entry_ok_Q w dp un fr gd s mg mb G news a vs D :=by
  intro w dp un fr gd s mg mb G news a vs D
  delta free_entry_ok_Q
  intro gh st hn lv dm
  have dm0 :=dm
  obtain ⟨m1,m2,m3,m4,hI,hl⟩ :=dm
  cell_enter
  k_steps
  rename Fr _ _ _ _ => F1
  rename News _ _ _ _ => N1
  refine ⟨range_inv (But1 _ (Str.ofString "number")) (fun i nw => nw = news ∧ ∀ j < i,D.getD (32 * j) 0 ≠ 229) ?_ ?_ but1_start ⟨rfl,fun _ h => absurd h (Nat.not_lt_zero _)⟩⟩
  · (intro i m₁ nw t h tk it hi; rintro ⟨v1,rfl⟩; rintro ⟨rfl,hJ⟩; intro F' N')
    clear F1 N1
    simp only [Int.zero_add] at F'
    k_steps
    · dsimp only [TurnEnd]
      tb_start
      refine ⟨rfl,.inl ⟨i,_,freeE_some hi hJ ?_,rfl⟩⟩
      rw [show 32 * i = ((i :Int) * 32).toNat by omega]
      assumption
    · refine turnEnd2 _ (by k_asm) (by k_asm) (off_one ?_) but1_again ⟨rfl,?_⟩
      · assumption
      · intro j hj
        by_cases e :j = i
        · subst e
          rw [show 32 * j = ((j :Int) * 32).toNat by omega]
          assumption
        · exact hJ j (by omega)
  · (intro m₁ nw h tk; rintro ⟨v1,rfl⟩; rintro ⟨rfl,hJ⟩; intro F' N')
    clear F1 N1
    k_steps
    tb_start
    exact ⟨rfl,.inr ⟨freeE_none hJ,rfl⟩⟩
theorem free_entry_ok :free_entry_ok_Q w dp un fr gd s mg mb G news a vs D :=free_entry_ok_L w dp un fr gd s mg mb G news a vs D
end
theorem kw45 :True :=by
  (k_with "mRangeRest" => (refine toStop ?_))
  (k_with "msetItem ref int" => (refine toStop ?_))
  trivial
end
section
section
theorem kw46 :True :=by
  (k_with "msetItem ref int" => (k_extra "r8"))
  (k_with "mRangeRest" => (refine Wait.h ?_))
  (k_with "mexec For Tuple Call" => (k_extra "r6"))
  trivial
theorem em_from {P :Params} {x :EA} {t :Ent} {ws ms :List Value} {led news :List (Addr × Obj)} (ha :Apart (eNews P x t ws ms) led) (hw :IntsAre ws t.raw) (hm :IntsAre ms t.map) (lw :t.raw.length = 11) (lm :t.map.length = 16)
    (r1 :(x.ml,listOf ms.toArray x.mn) ∈ news) (r2 :(x.rl,listOf ws.toArray x.rn) ∈ news) (r3 :(x.e,instObj 74 x.ed) ∈ news) (r4 :(x.ed,dictOf (entD P x t.user t.ext t.sp t.ct) 6) ∈ news) :EM P x t ws ms news :=
  ⟨r1,r2,r3,r4,hw,hm,lw,lm⟩
theorem free_some {k :Nat} (gh :GH w mg mb G) (st :Stay G s.heap) (hn :HN G s.heap news) (lv :Lv dp un 1) (dm :DM w.params a vs D news) (hk :freeE D = some k) :
    wpAny (model rw_tg0048_01.row.prog w) (AR dp un fr gd) (call (.ref 176) [.ref a.d]) (RetG s news (IsI (k :Nat))) (fun _ _ => False) s :=by
  refine wpAny_mono (free_entry_ok gh st hn lv dm) (fun r s' h => ?_) fun _ _ e => e
  obtain ⟨h',tk,tl,e,h1,h2,hP⟩ :_ :=h
  refine ⟨h',tk,tl,e,h1,h2,?_⟩
  obtain ⟨rfl,⟨i,t,hi,rfl⟩ | ⟨hi,_⟩⟩ :_ :=hP
  · rw [hk] at hi
    cases hi
    exact ⟨rfl,t,rfl⟩
  · rw [hk] at hi; cases hi
theorem free_lt {k :Nat} (h :freeE D = some k) :k < 8 :=by
  unfold freeE at h
  exact List.mem_range.mp (List.mem_of_find?_eq_some h)
local macro_rules | `(tactic| kst_all) => `(tactic| k_extra "kst_all9")
theorem kw47 :True :=by
  (k_with "mcall ref" => (((with_reducible show wpAny _ _ (call (.ref 113) _) _ _ _); first | k_extra "q7" | k_dflt (k_extra "q7"))))
  (k_with "q19" => ((refine useI (free_some (by assumption) (by ktr_unf) (by ktr_units) (by ktr_room) (by tb_rel) (by assumption)) (by k_asm) (by k_asm) ?_; kst_same)))
  (k_with "mcall ref" => (((with_reducible show wpAny _ _ (call (.ref 176) _) _ _ _); first | k_extra "q19" | k_dflt (k_extra "q19"))))
  (k_with "q20" => ((refine useE (new_entry_ok (by assumption) (by ktr_unf) (by ktr_units) (by ktr_room) (by tb_rel) (by k_mem) (by assumption) (by assumption)) (by k_asm) (by k_asm) ?_; kpc_g)))
  (k_with "mcall ref" => (((with_reducible show wpAny _ _ (call (.ref 120) _) _ _ _); first | k_extra "q20" | k_dflt (k_extra "q20"))))
  (k_with "kst_all9" => (exact em_from (by assumption) (by assumption) (by assumption) (by assumption) (by first | assumption | rfl) (by k_mem) (by k_mem) (by k_mem) (by k_mem)))
  (k_with "mcall ref" => ((refine useL (o₀ :=listOf _ _) (write_entry_ok (by assumption) (by ktr_unf) (by ktr_units) (by ktr_room) (by tb_rel) (by kst_all) (by omega) (by omega)) (by k_asm) (by k_asm) (by k_mem) ?_; kpc_fact)))
  trivial
noncomputable def LaysI (n :Nat) (k :Nat) (D :List Int) (r :Value) (o :Obj) (tl :List (Addr × Obj)) :Prop :=(∃ t,r = .int (k :Nat) t) ∧ tl = [] ∧ ∃ vs' :List Value,o = listOf vs'.toArray n ∧ IntsAre vs' D
theorem useLI {M :Model} {A :Around} {E :Value → Shared → Prop} {s :Shared} {g :Heap} {L l :Addr} {o₀ :Obj} {m :Str → Option Value} {news :List (Addr × Obj)} {t :Sem Value} {Q :Value → Shared → Prop} {n i :Nat} {D :List Int} (spec :wpAny M A t (MutG s news l (LaysI n i D)) (fun _ _ => False) s) (F :Fr g L s.heap m) (N :News g L s.heap news) (hm :(l,o₀) ∈ news)
    (k :∀ u vs' h' tk,Fr g L h' m → News g L h' ((l,listOf vs'.toArray n) :: dropN l news) → IntsAre vs' D → Q (.int (i :Nat) u) { s with heap :=h',toks :=tk }) :wpAny M A t Q E s :=
  useM spec F N hm fun r tl o h' tk hP F' N' lt => by rcases hP with ⟨⟨u,e1⟩,e2,vs',e3,hI⟩; subst e1; subst e2; subst e3; exact k u vs' h' tk F' N' hI
noncomputable def newE (u :Int) (rs :List Int) (ex :Int) :Ent :=⟨u,rs,ex,0,0,List.replicate 16 0⟩
section
variable (w dp un fr gd s mg mb G news a vs D)
noncomputable abbrev make_extent_ok_Q (u ex :Int) (t t' :Tok) (l n k :Nat) (ws :List Value) (rs :List Int) :Prop :=∀ (gh :GH w mg mb G) (st :Stay G s.heap) (hn :HN G s.heap news) (lv :Lv dp un 6) (dm :DM w.params a vs D news) (q1 :(l,listOf ws.toArray n) ∈ news) (qI :IntsAre ws rs) (ql :rs.length = 11) (hk :freeE D = some k),wpAny (model rw_tg0048_01.row.prog w) (AR dp un fr gd) (call (.ref 287) [.ref a.d,.int u t,.ref l,.int ex t']) (MutG s news a.l (LaysI a.n k (lay D (32 * k) (entOcts (newE u rs ex))))) (fun _ _ => False) s
end
theorem make_extent_ok_L :∀ w dp un fr gd s mg mb G news a vs D u ex t t' l n k ws rs,make_extent_ok_Q w dp un fr gd s mg mb G news a vs D u ex t t' l n k ws rs :=by
  intro w dp un fr gd s mg mb G news a vs D u ex t t' l n k ws rs
  delta make_extent_ok_Q
  intro gh st hn lv dm q1 qI ql hk
  have dm0 :=dm
  have hk8 :=free_lt hk
  obtain ⟨m1,m2,m3,m4,hI,hl⟩ :=dm
  cell_enter
  k_steps
  dsimp only
  refine mutG [] (by assumption) (by assumption) (by assumption) (by assumption) (by kpc_eq) (by k_mem) (fun _ h => nomatch h) (fun _ h => nomatch h) ⟨⟨_,rfl⟩,rfl,_,rfl,?_⟩
  rename IntsAre _ (lay _ _ _) => q
  rw [Int.toNat_natCast] at q
  exact q
theorem make_extent_ok {u ex :Int} {t t' :Tok} {l n k :Nat} {ws :List Value} {rs :List Int} :make_extent_ok_Q w dp un fr gd s mg mb G news a vs D u ex t t' l n k ws rs :=make_extent_ok_L w dp un fr gd s mg mb G news a vs D u ex t t' l n k ws rs
local macro_rules | `(tactic| kpc_none) => `(tactic| k_extra "kpc_none10")
theorem kw48 :True :=by
  (k_with "kpc_none10" => ((intro t9 ws9 h9 tk9 F9 N9 hI9; (try dsimp only); (try k_fold))))
  (k_with "mcall ref" => ((refine useLI (o₀ :=listOf _ _) (make_extent_ok (by assumption) (by ktr_unf) (by ktr_units) (by ktr_room) (by tb_rel) (by k_mem) (by assumption) (by assumption) (by assumption)) (by k_asm) (by k_asm) (by k_mem) ?_; kpc_none)))
  trivial
section
variable (w dp un fr gd s mg mb G news a vs D)
noncomputable abbrev make_ok_Q (u :Int) (t :Tok) (l n k :Nat) (ws :List Value) (rs :List Int) :Prop :=∀ (gh :GH w mg mb G) (st :Stay G s.heap) (hn :HN G s.heap news) (lv :Lv dp un 7) (dm :DM w.params a vs D news) (q1 :(l,listOf ws.toArray n) ∈ news) (qI :IntsAre ws rs) (ql :rs.length = 11) (hk :freeE D = some k),wpAny (model rw_tg0048_01.row.prog w) (AR dp un fr gd) (call (.ref 280) [.ref a.d,.int u t,.ref l]) (MutG s news a.l (LaysI a.n k (lay D (32 * k) (entOcts (newE u rs 0))))) (fun _ _ => False) s
end
theorem make_ok_L :∀ w dp un fr gd s mg mb G news a vs D u t l n k ws rs,make_ok_Q w dp un fr gd s mg mb G news a vs D u t l n k ws rs :=by
  intro w dp un fr gd s mg mb G news a vs D u t l n k ws rs
  delta make_ok_Q
  intro gh st hn lv dm q1 qI ql hk
  have dm0 :=dm
  obtain ⟨m1,m2,m3,m4,hI,hl⟩ :=dm
  cell_enter
  k_steps
  try dsimp only
  refine mutG [] (by assumption) (by assumption) (by assumption) (by assumption) (by kpc_eq) (by k_mem) (fun _ h => nomatch h) (fun _ h => nomatch h) ⟨⟨_,rfl⟩,rfl,_,rfl,?_⟩
  assumption
theorem make_ok {u :Int} {t :Tok} {l n k :Nat} {ws :List Value} {rs :List Int} :make_ok_Q w dp un fr gd s mg mb G news a vs D u t l n k ws rs :=make_ok_L w dp un fr gd s mg mb G news a vs D u t l n k ws rs
end
theorem kw49 :True :=by
  (k_with "mRangeRest" => (refine toStop ?_))
  (k_with "mcall ref" => (refine toStop ?_))
  (k_with "mexec For Tuple Call" => (refine toStop ?_))
  (k_with "msetItem ref int" => (refine toStop ?_))
  trivial
end
section
section
theorem kw50 :True :=by
  (k_with "msetItem ref int" => (k_extra "r8"))
  (k_with "mRangeRest" => (refine Wait.h ?_))
  (k_with "mexec For Tuple Call" => (k_extra "r6"))
  trivial
theorem kw51 :True :=by
  (k_with "meval ListComp" => (k_extra "r2"))
  (k_with "q21" => ((refine useV (has_flag_ok (by assumption) (by ktr_unf) (by ktr_units) (by ktr_room) (by k_mem) (by assumption) (by assumption)) (by k_asm) (by k_asm) ?_; kst_mem)))
  (k_with "mcall ref" => (((with_reducible show wpAny _ _ (call (.ref 252) _) _ _ _); first | k_extra "q21" | k_dflt (k_extra "q21"))))
  (k_with "mcall ref" => (k_extra "r1"))
  (k_with "mexec Raise some none" => (refine Raise_own rfl ?_))
  trivial
theorem in_keeps {w :World} {g h :Heap} {L :Addr} {m :Str → Option Value} (X :(Mine.hd.heap_39 w.params).In g) (F :Fr g L h m) :(Mine.hd.heap_39 w.params).In h :=X.keeps F.keep
theorem raise_here {w :World} {A :Around} {fl :List Env} {env :Env} {g h₁ :Heap} {L :Addr} {m :Str → Option Value} {news news' :List (Addr × Obj)} {s :Shared} {word :Str} {tk tk' :Tok} {G :Heap} {R :Result → Shared → Prop}
    {loose :List Str} {mean :ExcName → Option Value} {mg mb :Str → Option Value} (X :(Mine.hd.heap_39 w.params).In g) (T :Top topProg loose mean mg mb g) (S :Stk s.heap fl) (F :Fr g L h₁ m) (N :News g L h₁ news') (kp :∀ b o,s.heap.get? b = some o → b ∉ news.map (·.1) → g.get? b = some o) (hn :HN G s.heap news) (hs :∀ p ∈ news,p ∈ news')
    (l1 :∀ p ∈ news,p.1 < L) (hA :A.frames = some (env :: fl)) (hf :env.frame = some L) (hk :env.scope.kind ≠ .module) (hroom :(A.under (.builtin "type.__call__" ⟨[.ref 33,.str word tk],[]⟩)).depth < recursionLimit)
    (hR :∀ e s',RaiseG s fl word e s' → R (.error e) s') :
    wpAny (model PG w) A (call (.ref 33) [.str word tk]) (RaisableD w (fun e s' => wpAny (model PG w) A (leaving env e) (fun _ s'' => R (.error e) s'') (fun e' s'' => R (.error e') s'') s'))
      (fun e s' => wpAny (model PG w) A (leaving env e) (fun _ s'' => R (.error e) s'') (fun e' s'' => R (.error e') s'') s') { s with heap :=h₁,toks :=tk' } :=by
  have st :=stay_of F N kp (fun p hp => (hn p hp).1) hs
  have hL :=newL F kp l1
  refine mk_exc (X.keeps F.keep) (T.keeps F.keep) hroom fun h₂ e t₂ Y => ?_
  obtain ⟨dx,t0,he,hd⟩ :_ :=Y.obj
  refine ⟨e,dx,t0,rfl,cls33 ((X.keeps F.keep).keeps Y.keep),he,?_⟩
  exact leave_made hA hf hk S st hL F.ns Y rfl fun h₃ W => hR _ _ ⟨e,tk,h₃,t₂,rfl,rfl,W⟩
section
variable (w dp un gd s mg mb G news)
noncomputable abbrev need_changeable_raise_Q (fl :List Env) (l n :Nat) (ps :List PR) :Prop :=∀ (gh :GH w mg mb G) (st :Stay G s.heap) (hn :HN G s.heap news) (lv :Lv dp un 3) (S :Stk s.heap fl) (q1 :(l,listOf (refs ps).toArray n) ∈ news) (hs :∀ q ∈ flat w.params ps,q ∈ news) (ok :∀ p ∈ ps,p.Ok) (hl :ps.length ≤ 8) (hf :∃ p ∈ ps,128 ≤ p.e.raw.getD 8 0),wpAny (model rw_tg0048_01.row.prog w) (AR dp un (some fl) gd) (call (.ref 292) [.ref l]) (fun _ _ => False) (RaiseG s fl (Str.ofString "file read only")) s
end
theorem need_changeable_raise_L :∀ w dp un gd s mg mb G news fl l n ps,need_changeable_raise_Q w dp un gd s mg mb G news fl l n ps :=by
  intro w dp un gd s mg mb G news fl l n ps
  delta need_changeable_raise_Q
  intro gh st hn lv S q1 hs ok hl hf
  cell_enter
  k_steps
  k_dflt (refine refs_src (by rfl) (by k_asm) (by k_asm) q1 (fun p hp => hs _ (flat_mem hp List.mem_cons_self)) hl (fun p y => y = .bool (decide (128 ≤ p.e.raw.getD 8 0))) ?_ ?_)
  · intro p C oC D ys m₂ s' news' E' hp hC h1 h2 hs' F N
    have in1 :∀ q ∈ one w.params p,q ∈ news' :=fun q hq => hs' q (hs q (flat_mem hp hq))
    have f2 :(p.x.e,instObj 74 p.x.ed) ∈ news' :=in1 _ (by simp)
    have f3 :(p.x.ed,dictOf (entD w.params p.x p.e.user p.e.ext p.e.sp p.e.ct) 6) ∈ news' :=in1 _ (by simp)
    have f4 :(p.x.rl,listOf p.ws.toArray p.x.rn) ∈ news' :=in1 _ (by simp)
    have f5 :=(ok p hp).hw
    have f6 :=(ok p hp).lw
    k_steps
    exact outL (by assumption) (by assumption) rfl
  · intro D h tk ys hp F N o1
    have hb :=paired_bools hp
    k_steps
    · refine ⟨?_⟩
      have lv2 :=lv.1
      refine raise_here (R :=fun r s' => match r with | .ok (.ret v) => False | .ok _ => False | .error e => RaiseG s fl (Str.ofString "file read only") e s') (by assumption) (by assumption) S (by k_asm) (by k_asm) (by assumption) hn (by ktr_rel) (by assumption) rfl rfl (fun h => by cases h) ?_ (fun _ _ h => h)
      show dp + 1 + 1 < 1000
      omega
    · obtain ⟨p,hp,h8⟩ :=hf
      have h9 :=List.any_eq_false.mp (by assumption :(ps.any _) = false) p hp
      exact h9 (decide_eq_true h8)
theorem need_changeable_raise {fl :List Env} {l n :Nat} {ps :List PR} :need_changeable_raise_Q w dp un gd s mg mb G news fl l n ps :=need_changeable_raise_L w dp un gd s mg mb G news fl l n ps
end
theorem kw52 :True :=by
  (k_with "mRangeRest" => (refine toStop ?_))
  (k_with "mcall ref" => (refine toStop ?_))
  (k_with "meval ListComp" => (refine toStop ?_))
  (k_with "mexec For Tuple Call" => (refine toStop ?_))
  (k_with "mexec Raise some none" => (refine toStop ?_))
  (k_with "msetItem ref int" => (refine toStop ?_))
  trivial
end
section
section
theorem kw53 :True :=by
  (k_with "msetItem ref int" => (k_extra "r8"))
  (k_with "mRangeRest" => (refine Wait.h ?_))
  (k_with "mexec For Tuple Call" => (k_extra "r6"))
  trivial
noncomputable def ChG (s :Shared) (fl :List Env) (ch :List Addr) (P :Value → Heap → Prop) (r :Value) (s' :Shared) :Prop :=
  ∃ h' tk,s' = { s with heap :=h',toks :=tk } ∧ (∀ b ob,s.heap.get? b = some ob → b ∉ ch → b ∉ frs fl → h'.get? b = some ob) ∧
    (∀ b ob,s.heap.get? b = some ob → b ∈ frs fl → b ∉ ch → ∃ sl,h'.get? b = some { ob with slots :=sl }) ∧ P r h'
theorem enterH {w :World} {A :Around} {s :Shared} {mg mb :Str → Option Value} {G :Heap} {news :List (Addr × Obj)} {R :Result → Shared → Prop} (hid :List Addr)
    {name qual :Str} {params :Arguments} {body :List Stmt} {scope :Scope} {dV kV doc pm cdv ct oc :Value} {an od :Option Addr} {osl :Array (Option Value)} {f :Addr} {args :Args} {binds :List (Str × Value)}
    (gh :GH w mg mb G) (st :Stay G s.heap) (hn :∀ p ∈ news,s.heap.get? p.1 = some p.2 ∧ G.get? p.1 = none) (hG :∀ a ∈ hid,G.get? a = none)
    (hroom :A.depth < recursionLimit)
    (ho :(Mine.hd.heap_39 w.params).lookup f = some ⟨oc,od,.func (fnOf name qual params body scope dV kV doc pm an cdv ct),osl⟩)
    (hcd :codeIn (Mine.hd.heap_39 w.params) cdv qual = true)
    (hbind :BindsTo s (fnOf name qual params body scope dV kV doc pm an cdv ct) args binds) (hloc :∀ y ∈ binds,scope.names.lookup y.1 = some .local)
    (h :∀ g L' h₁ tk loose mean,Fr g L' h₁ (frm binds.reverse) → News g L' h₁ news → (Mine.hd.heap_39 w.params).In g → Top topProg loose mean mg mb g → Stay G g →
      (∀ b o,s.heap.get? b = some o → b ∉ news.map (·.1) ++ hid → g.get? b = some o) → (∀ b o,g.get? b = some o → s.heap.get? b = some o ∧ b ∉ hid) → (∀ p ∈ news,p.1 < L') → s.heap.get? L' = none → Stay s.heap h₁ →
      wpAny (model rw_tg0048_01.row.prog w) (A.deeper (envOf qual scope L' f cdv)) (execs body (envOf qual scope L' f cdv))
        (fun fl s' => R (.ok (.ret (match fl with | .ret v => v | _ => .none))) s')
        (fun e s' => wpAny (model rw_tg0048_01.row.prog w) (A.deeper (envOf qual scope L' f cdv)) (leaving (envOf qual scope L' f cdv) e) (fun _ s'' => R (.error e) s'') (fun e' s'' => R (.error e') s'') s')
        { s with heap :=h₁,toks :=tk })
    (hco :scope.isCoroutine = false) (hgen :scope.isGenerator = false) (hk :scope.kind = .function)
    (hcell :∀ x ∈ scope.names,x.2 ≠ .cell) :codeAny (model rw_tg0048_01.row.prog w) A (.call (.ref f) args) R s :=by
  obtain ⟨loose,mean,T⟩ :_ :=gh.T
  have hS :=T.nolimit.keeps st
  refine codeAny_call_def (fd :=fnOf name qual params body scope dV kV doc pm an cdv ct) (body :=body) (binds :=binds) hroom (st _ _ (gh.X _ _ ho)) rfl hS (codeRec_of (gh.X.keeps st) hcd) rfl hbind hcell hloc (fun h₁ hns hk₁ => ?_) hco hgen hk
  have nG :∀ b o,G.get? b = some o → b ∉ news.map (·.1) ++ hid :=fun b o e q => by
    rcases List.mem_append.mp q with q | q
    · obtain ⟨p,hp,rfl⟩ :_ :=List.mem_map.mp q
      rw [(hn p hp).2] at e; cases e
    · rw [hG b q] at e; cases e
  have sg :Stay G (hideAll s.heap (news.map (·.1) ++ hid)) :=fun b o e => hideAll_get _ (st b o e) (nG b o e)
  exact h (hideAll s.heap (news.map (·.1) ++ hid)) s.heap.objs.size h₁ _ loose mean (frmF ⟨hns,fun b o e => hk₁ b o (of_hideAll _ e),Nat.le_of_eq (hideAll_size _ _)⟩)
    (fun p hp => ⟨hk₁ _ _ (hn p hp).1,Nat.ne_of_lt (Heap.lt_size (hn p hp).1),hideAll_none _ (List.mem_append_left _ (List.mem_map_of_mem hp))⟩) (gh.X.keeps sg) (T.keeps sg) sg
    (fun b o e nb => hideAll_get _ e nb) (fun b o e => ⟨of_hideAll _ e,fun q => by rw [hideAll_none _ (List.mem_append_right _ q)] at e; cases e⟩) (fun p hp => Heap.lt_size (hn p hp).1) (Heap.get?_none_of_le (Nat.le_refl _)) hk₁
theorem fr_slots {g h h' :Heap} {L :Addr} {m :Str → Option Value} (F :Fr g L h m) (k :∀ b o,g.get? b = some o → h'.get? b = some o) (u :h.UpToSlots h') :Fr g L h' m :=by
  obtain ⟨oL,es,ep,hL,hd,r⟩ :_ :=F.ns
  obtain ⟨sl,z⟩ :_ :=u _ _ hL (fun vs => by rw [hd]; intros q; cases q)
  exact ⟨⟨_,es,ep,z,hd,r⟩,k,F.above⟩
noncomputable def led (g h :Heap) (bs :List Addr) :List (Addr × Obj) :=bs.filterMap fun b => match g.get? b with
  | none => (h.get? b).map fun o => (b,o)
  | some _ => none
theorem led_news {g h :Heap} {L :Addr} {bs :List Addr} (hb :∀ b ∈ bs,b ≠ L) :News g L h (led g h bs) :=fun p hp => by
  obtain ⟨b,hm,e⟩ :_ :=List.mem_filterMap.mp hp
  cases q :g.get? b with
  | some o => rw [q] at e; cases e
  | none =>
    rw [q] at e
    cases z :h.get? b with
    | none => rw [z] at e; cases e
    | some o => rw [z] at e; cases e; exact ⟨z,hb b hm,q⟩
theorem led_at {g h h' :Heap} {L L' b :Addr} {m m' :Str → Option Value} {bs :List Addr} {o :Obj} (F :Fr g L h m) (F' :Fr g L' h' m') (N :News g L' h' (led g h bs)) (hm :b ∈ bs) (e :h.get? b = some o) :h'.get? b = some o :=by
  cases q :g.get? b with
  | some o' =>
    have :=F.keep _ _ q
    rw [e] at this; cases this
    exact F'.keep _ _ q
  | none => exact (N (b,o) (List.mem_filterMap.mpr ⟨b,hm,by simp [q,e]⟩)).1
structure Inner (s :Shared) (G :Heap) (fl :List Env) (env :Env) (h₁ :Heap) :Prop where
  st :Stay s.heap h₁
  S :Stk h₁ (env :: fl)
  hG :∀ a ∈ frs (env :: fl),G.get? a = none
  fr :∃ L,env.frame = some L ∧ s.heap.get? L = none
theorem frs_cons {env :Env} {fl :List Env} {L :Addr} (hf :env.frame = some L) :frs (env :: fl) = L :: frs fl :=by simp [frs,hf]
theorem Inner.of {s :Shared} {G h₁ :Heap} {fl :List Env} {env :Env} {L :Addr} {m :Str → Option Value} (stG :Stay G s.heap) (S :Stk s.heap fl) (hG :∀ a ∈ frs fl,G.get? a = none) (st :Stay s.heap h₁) (hk :env.scope.kind = .function) (hf :env.frame = some L) (hL :s.heap.get? L = none) (hn :h₁.Ns L m) :Inner s G fl env h₁ :=
  ⟨st,Stk.deeper S st (by rw [hk]; intros h; cases h) hf hL hn,fun a ha => by
    rw [frs_cons hf] at ha
    rcases List.mem_cons.mp ha with rfl | ha
    · cases q :G.get? a with
      | none => rfl
      | some o => rw [stG _ _ q] at hL; cases hL
    · exact hG a ha,L,hf,hL⟩
theorem ChG.out {s :Shared} {G h₁ :Heap} {fl :List Env} {env :Env} {tk :Tok} {ch :List Addr} {P :Value → Heap → Prop} {r :Value} {s' :Shared} (I :Inner s G fl env h₁) (c :ChG { s with heap :=h₁,toks :=tk } (env :: fl) ch P r s') :ChG s fl ch P r s' :=by
  obtain ⟨h',tk',rfl,c1,c2,c3⟩ :_ :=c
  obtain ⟨L,hf,hL⟩ :_ :=I.fr
  rw [frs_cons hf] at c1 c2
  refine ⟨h',tk',rfl,fun b ob e n1 n2 => c1 b ob (I.st _ _ e) n1 fun q => ?_,fun b ob e m n => c2 b ob (I.st _ _ e) (List.mem_cons_of_mem _ m) n,c3⟩
  rcases List.mem_cons.mp q with rfl | q
  · rw [hL] at e; cases e
  · exact n2 q
theorem fnAt_of {f :Addr} {h h₁ :Heap} {ob :Obj} (st :Stay h h₁) (hf :h.get? f = some ob) (hfd :∃ fd,ob.data = .func fd) :FnAt f h₁ :=by
  obtain ⟨oc,od,dt,sl⟩ :_ :=ob
  obtain ⟨fd,e⟩ :_ :=hfd
  dsimp only at e
  subst e
  exact ⟨_,_,_,_,st _ _ hf⟩
section
variable {w :World} {dp un :Nat} {fl :List Env} {gd :Option (List Code)} {s :Shared} {mg mb :Str → Option Value} {G :Heap} {f :Addr} {ch :List Addr} {P :Value → Heap → Prop}
theorem kw54 :True :=by
  (k_with "mcall ref" => (refine Wait.h ?_))
  trivial
noncomputable def ToldG (s :Shared) (fl :List Env) (ch :List Addr) (P :Value → Heap → Prop) (W :Str → Prop) (r :Value) (s' :Shared) :Prop :=
  ChG s fl ch P r s' ∨ ∃ word t,W word ∧ r = .str word t ∧ ChG s fl [] (fun _ _ => True) r s'
noncomputable abbrev RaiseW (s :Shared) (l :List Env) (W :Str → Prop) (v :Value) (s' :Shared) :Prop :=∃ word,W word ∧ RaiseG s l word v s'
noncomputable abbrev told_any_Q (w :World) (dp un :Nat) (gd :Option (List Code)) (s :Shared) (mg mb :Str → Option Value) (G :Heap) (fl :List Env) (f :Addr) (ch :List Addr) (P :Value → Heap → Prop) (W :Str → Prop) (ob :Obj) :Prop :=∀ (gh :GH w mg mb G) (st :Stay G s.heap) (lv :Lv dp un 3) (S :Stk s.heap fl) (hG :∀ a ∈ frs fl,G.get? a = none) (hf :s.heap.get? f = some ob) (hfd :∃ fd,ob.data = .func fd) (spec :∀ env h₁ tk,Inner s G fl env h₁ → wpAny (model PG w) (AR (dp + 1) (un + 3) (some (env :: fl)) gd) (call (.ref f) []) (ChG { s with heap :=h₁,toks :=tk } (env :: fl) ch P) (RaiseW { s with heap :=h₁,toks :=tk } (env :: fl) W) { s with heap :=h₁,toks :=tk }),wpAny (model rw_tg0048_01.row.prog w) (AR dp un (some fl) gd) (call (.ref 356) [.ref f]) (ToldG s fl ch P W) (fun _ _ => False) s
theorem told_any_L :∀ w dp un gd s mg mb G fl f ch P W ob,told_any_Q w dp un gd s mg mb G fl f ch P W ob :=by
  intro w dp un gd s mg mb G fl f ch P W ob
  delta told_any_Q
  intro gh st lv S hG hf hfd spec
  have hn :∀ p ∈ ([] :List (Addr × Obj)),s.heap.get? p.1 = some p.2 ∧ G.get? p.1 = none :=fun _ h => nomatch h
  refine wpAny_call ?_
  refine' enterH (frs fl) gh st hn hG ?k8 ?k6 ?k7 ?k9 ?kB ?_ ?c2 ?c3 ?c4 ?c5
  case k6 => k_is
  case k7 => k_is
  case k8 => exact lv_room lv
  case k9 => exact BindsTo.of_eq rfl
  case kB => exact locs rfl
  case c2 => exact rfl
  case c3 => exact rfl
  case c4 => exact rfl
  case c5 => decide
  intro g L h₁ tk loose mean F N X T sg kp bk l1 hL st₁
  have F :Fr g L h₁ (frm [(Str.ofString "work",.ref f)]) :=F
  dsimp only [frm] at F
  dsimp only
  k_steps
  refine callWith_F0 (fnAt_of st₁ hf hfd) ?_
  have Iof :∀ env :Env,env.scope.kind = .function → env.frame = some L → Inner s G fl env h₁ :=fun env e1 e2 => Inner.of st S hG st₁ e1 e2 hL F.ns
  refine wpAny_mono (spec _ h₁ tk ?_) (fun v s' hv => ?_) fun e s' he => ?_
  · exact Iof _ rfl rfl
  · exact .inl (hv.out (Iof _ rfl rfl))
  obtain ⟨word,hW,ea,tw,h₂,t₂,rfl,rfl,W⟩ :=he
  obtain ⟨dx,mA,TD,hd,hw⟩ :=W.word
  have up :∀ (env :Env),env.frame = some L → ∀ b o,g.get? b = some o → (hideAll h₁ (frs (env :: fl))).get? b = some o :=fun env e1 b o z => by
    obtain ⟨z1,z2⟩ :=bk _ _ z
    refine hideAll_get _ (st₁ _ _ z1) fun hm => ?_
    rw [frs_cons e1] at hm
    rcases List.mem_cons.mp hm with rfl | hm
    · rw [hL] at z1; cases z1
    · exact z2 hm
  refine noteD_next rfl W.frames rfl TD W.stays (hide_none W.new) fun h₃ W₃ T₃ => ?_
  refine flightD W₃.stays W₃.frames T₃ fun h₄ W₄ T₄ => ?_
  have u₄ :h₁.UpToSlots h₄ :=W.slots.trans (W₃.slots.trans W₄.slots)
  have F₄ :=fr_slots F (fun b o z => W₄.stays _ _ (up _ rfl _ _ z)) u₄
  have F₁ :=F
  clear F N
  have X₄ :=X.keeps F₄.keep
  obtain ⟨oe,vs,T0,oT,ts,he,⟨hcls,hdx⟩,hdt,h1,rest⟩ :=id T₄
  dsimp only
  refine wpAny_handleBy_cons (codeAny_handlers_test ?_) (by intro q; cases q)
  k_steps
  refine wpAny_excMatches_sub_self (cls33 X₄) he hcls (by decide) ?_
  refine codeAny_handlers_suite_as ?_
  refine flightD W₄.stays W₄.frames T₄ fun h₅ W₅ T₅ => ?_
  have u₅ :h₁.UpToSlots h₅ :=u₄.trans W₅.slots
  have u₂₅ :h₂.UpToSlots h₅ :=W₃.slots.trans (W₄.slots.trans W₅.slots)
  have F₅ :=fr_slots F₄ (fun b o z => W₅.stays _ _ (up _ rfl _ _ z)) W₅.slots
  obtain ⟨oe₅,vs₅,T0₅,oT₅,ts₅,he₅,⟨hcls₅,hdx₅⟩,hdt₅,_⟩ :=id T₅
  have hd₅ :h₅.Ns1 dx mA :=by
    obtain ⟨o,es,ep,z,q,r⟩ :=hd
    obtain ⟨sl,z'⟩ :=u₂₅ _ _ z (fun vs => by rw [q]; intro q'; cases q')
    exact ⟨_,es,ep,z',q,r⟩
  have nd :dx ≠ L :=fun e => by
    obtain ⟨o,es,ep,z,q,_,_,r⟩ :=hd₅
    obtain ⟨o',es',ep',z',q',_,r'⟩ :=F₅.ns
    rw [e,z'] at z
    cases z
    rw [q'] at q
    cases q
    have :=(r (Str.ofString "word")).symm.trans (r' (Str.ofString "word"))
    rw [hw] at this
    dsimp only at this
    rw [if_neg (by decide)] at this
    cases this
  have ne :ea ≠ L :=fun e => by
    have :=W.new
    obtain ⟨o',es',ep',z',_⟩ :=F₁.ns
    rw [e] at this
    exact absurd (z'.symm.trans this) (by simp)
  have nf :∀ b ∈ frs fl,b ≠ L :=fun b hb e => by
    obtain ⟨_,o,z,_⟩ :=S.mem hb
    rw [e,hL] at z; cases z
  have N₅ :News g L h₅ (led g h₅ (ea :: dx :: frs fl)) :=led_news fun b hb => by
    rcases List.mem_cons.mp hb with rfl | hb
    · exact ne
    · rcases List.mem_cons.mp hb with rfl | hb
      · exact nd
      · exact nf b hb
  clear F₄ X₄
  have at₅ :∀ h' m',Fr g L h' m' → News g L h' (led g h₅ (ea :: dx :: frs fl)) → ∀ b ∈ (ea :: dx :: frs fl),∀ o,h₅.get? b = some o → h'.get? b = some o :=fun h' m' F' N' b hm o e => led_at F₅ F' N' hm e
  generalize led g h₅ (ea :: dx :: frs fl) = ld at N₅ at₅
  dsimp only
  k_steps
  rename Fr _ _ _ _ => F₆
  rename News _ _ _ _ => N₆
  have at₆ :=at₅ _ _ F₆ N₆
  have he₆ :=at₆ ea List.mem_cons_self _ he₅
  have hd₆ :Heap.Ns1 _ dx mA :=Heap.Ns1.at hd₅ fun o z => at₆ dx (List.mem_cons_of_mem _ List.mem_cons_self) o z
  refine word_attr (X.keeps F₆.keep) he₆ hcls₅ hdt₅ hdx₅ hd₆ hw ?_
  dsimp only
  refine wpAny_nameGoes rfl F₆.ns rfl fun h₇ m₇ hn₇ hs₇ => ?_
  dsimp only
  refine .inr ⟨word,_,hW,rfl,h₇,_,rfl,fun b ob e _ nb => ?_,fun b ob e hb _ => ?_,trivial⟩
  · have z :=F₆.keep _ _ (kp _ _ e (by simpa using nb))
    exact (hs₇.2 b (fun q => by have q :b = L :=q; rw [q,hL] at e; cases e)).trans z
  · obtain ⟨_,o,z,hnf⟩ :=S.mem hb
    rw [e] at z; cases z
    obtain ⟨sl,z'⟩ :=u₅ _ _ (st₁ _ _ e) hnf
    exact ⟨sl,(hs₇.2 b (nf b hb)).trans (at₆ b (List.mem_cons_of_mem _ (List.mem_cons_of_mem _ hb)) _ z')⟩
theorem told_any {W :Str → Prop} (gh :GH w mg mb G) (st :Stay G s.heap) (lv :Lv dp un 3) (S :Stk s.heap fl) (hG :∀ a ∈ frs fl,G.get? a = none) {ob :Obj} (hf :s.heap.get? f = some ob) (hfd :∃ fd,ob.data = .func fd)
    (spec :∀ env h₁ tk,Inner s G fl env h₁ → wpAny (model PG w) (AR (dp + 1) (un + 3) (some (env :: fl)) gd) (call (.ref f) []) (ChG { s with heap :=h₁,toks :=tk } (env :: fl) ch P) (RaiseW { s with heap :=h₁,toks :=tk } (env :: fl) W) { s with heap :=h₁,toks :=tk }) :
    wpAny (model rw_tg0048_01.row.prog w) (AR dp un (some fl) gd) (call (.ref 356) [.ref f]) (ToldG s fl ch P W) (fun _ _ => False) s :=told_any_L w dp un gd s mg mb G fl f ch P W ob gh st lv S hG hf hfd spec
end
end
theorem kw55 :True :=by
  (k_with "mRangeRest" => (refine toStop ?_))
  (k_with "mcall ref" => (refine toStop ?_))
  (k_with "mexec For Tuple Call" => (refine toStop ?_))
  (k_with "msetItem ref int" => (refine toStop ?_))
  trivial
end
section
section
theorem kw56 :True :=by
  (k_with "msetItem ref int" => (k_extra "r8"))
  (k_with "mRangeRest" => (refine Wait.h ?_))
  (k_with "mexec For Tuple Call" => (k_extra "r6"))
  trivial
structure TabOk (qual :Str) (ps :Array Value) (h :Heap) :Prop where
  tri :TriplesOk ps.toList
  codes :∀ pos cv,codeAmong pos ps.toList = some cv → ∃ c',cv = .ref c' ∧ h.CodeRec (.ref c') qual
theorem TabOk.nil {qual :Str} {h :Heap} :TabOk qual #[] h :=⟨trivial,fun _ _ e => by cases e⟩
theorem codeRec_but {P :Addr} {h h' :Heap} {cd :Value} {q :Str} {o :Obj} (hP :h.get? P = some o) (hd :∃ ps,o = tabObj ps) (hx :Heap.ExtBut P h h') (x :h.CodeRec cd q) (y :∀ vs t,h.get? P = some o → o.data = .fields vs → vs[1]? = some (.str q t) → False) :h'.CodeRec cd q :=by
  obtain ⟨c,oc,vs,t,e,g,hdc,hv⟩ :_ :=x
  refine ⟨c,oc,vs,t,e,hx _ _ (fun q' => ?_) g,hdc,hv⟩
  subst q'
  rw [hP] at g
  cases g
  exact y _ _ hP hdc hv
theorem triples_one {l :List Value} {x :Str} {t :Tok} (h :TriplesOk l) (e :l[1]? = some (.str x t)) :False :=by
  cases l with
  | nil => cases e
  | cons a l => cases l with
    | nil => cases e
    | cons b l =>
      cases (Option.some.inj e :b = .str x t)
      simp [TriplesOk] at h
theorem TabOk.more {qual :Str} {ps :Array Value} {h h' :Heap} {P :Addr} (x :TabOk qual ps h) (hP :h.get? P = some (tabObj ps)) (hx :Heap.ExtBut P h h') :TabOk qual ps h' :=
  ⟨x.tri,fun pos cv e => by
    obtain ⟨c',rfl,r⟩ :_ :=x.codes pos cv e
    refine ⟨c',rfl,codeRec_but hP ⟨ps,rfl⟩ hx r fun vs t _ hd hv => ?_⟩
    cases hd
    exact triples_one x.tri (by simpa using hv)⟩
theorem among_snoc {pos pos' :Pos} {c :Value} :∀ (l :List Value),TriplesOk l → ∀ cv,codeAmong pos (l ++ [rawInt pos'.line,rawInt pos'.col,c]) = some cv → codeAmong pos l = some cv ∨ cv = c
  | [],_,cv,e => by
    simp only [List.nil_append,codeAmong,rawInt] at e
    split at e
    · exact .inr (Option.some.inj e).symm
    · cases e
  | .int a u :: .int b v :: d :: rest,h,cv,e => by
    simp only [List.cons_append,codeAmong] at e ⊢
    split at e
    · rename_i q
      rw [if_pos q]; exact .inl e
    · rename_i q
      rw [if_neg q]
      exact among_snoc rest h cv e
theorem tri_snoc {pos :Pos} {c :Value} :∀ (l :List Value),TriplesOk l → TriplesOk (l ++ [rawInt pos.line,rawInt pos.col,c])
  | [],_ => trivial
  | .int _ _ :: .int _ _ :: _ :: rest,h => tri_snoc rest h
section
variable {prog :Program} {w :World} {A :Around} {E :Value → Shared → Prop} {s :Shared} {g :Heap} {L a c P :Addr} {m mg mb :Str → Option Value} {cn :Str} {cs :Scope} {ccd :Value} {cl :List (Str × Addr)}
  {p :Program} {loose :List Str} {mean :ExcName → Option Value} {qual :Str} {params :Arguments} {body :Expr} {scope :Scope} {ps :Array Value} {pos :Pos} {clos :List (Str × Addr)}
theorem make_lam {Q :Value → Shared → Prop} (F :Fr g L s.heap m) (T :Top p loose mean mg mb g) (C :CodeHd g c P) (hcd :ccd = .ref c) (hP :s.heap.get? P = some (tabObj ps)) (ht :TabOk (cn ++ ".<locals>." ++ "<lambda>") ps s.heap) (gP :g.get? P = none)
    (hcl :closureFor scope (envX cn cs L a ccd cl) = pure clos) (hdef :defaultsOf params (envX cn cs L a ccd cl) = ([],[]))
    (h :∀ f c' ctv ps' h' tk,Heap.ExtBut P s.heap h' → h'.get? P = some (tabObj ps') → TabOk (cn ++ ".<locals>." ++ "<lambda>") ps' h' →
      h'.get? f = some (kla_obj "<lambda>" (cn ++ ".<locals>." ++ "<lambda>") params body scope clos ((mg "__name__").getD .none) c' ctv) → h'.CodeRec (.ref c') (cn ++ ".<locals>." ++ "<lambda>") → s.heap.get? f = none → Q (.ref f) { s with heap :=h',toks :=tk }) :
    wpAny (model prog w) A (eval (.Lambda params body scope pos) (envX cn cs L a ccd cl)) Q E s :=by
  refine kla_eval hdef ?_
  have hgs :=T.g.keeps F.keep
  obtain ⟨bm,ob,b1,b2,b3,b4,b5,b6⟩ :_ :=T.bmain
  have hgP :mainGlobals ≠ P :=fun q => by
    obtain ⟨o,es,ep,e,_⟩ :_ :=T.g
    rw [q,gP] at e; cases e
  have hbP :bm ≠ P :=fun q => by rw [q,gP] at b3; cases b3
  have hbG :bm ≠ mainGlobals :=fun q => by
    obtain ⟨o,es,ep,e,hd,_⟩ :_ :=T.g
    rw [q,e] at b3; cases b3; rw [hd] at b6; cases b6
  cases hf :codeAmong pos ps.toList with
  | none =>
    refine kla_makeFunction (mg :=mg) hcl rfl hgs hcd (C.keeps F.keep) hP ht.tri hf hgP ⟨bm,ob,b1,b2,hbG,hbP,F.keep _ _ b3,b4,b5,b6⟩ fun c' ctv h' tk hx hge hlt hrec htb => ?_
    have hx' :Heap.ExtBut P s.heap (h'.push (kla_obj "<lambda>" (cn ++ ".<locals>." ++ "<lambda>") params body scope clos ((mg "__name__").getD .none) c' ctv)) :=fun b o hb e => Heap.get?_push_of_some _ (hx b o hb e)
    refine h _ c' ctv _ _ tk hx' (Heap.get?_push_of_some _ htb) ⟨?_,fun pos' cv e => ?_⟩ (Heap.get?_push_size _ rfl) (hrec.push _) (Heap.get?_none_of_le (Nat.le_trans hge (Nat.le_of_lt hlt)))
    · rw [Array.toList_append]
      exact tri_snoc _ ht.tri
    · rw [Array.toList_append] at e
      rcases among_snoc _ ht.tri _ e with e | rfl
      · exact (ht.more hP hx').codes _ _ e
      · exact ⟨c',rfl,hrec.push _⟩
  | some cv =>
    obtain ⟨c',rfl,hrec⟩ :_ :=ht.codes _ _ hf
    refine kla_makeFunctionHit (mg :=mg) hcl rfl hgs hcd (C.keeps F.keep) hP ht.tri hf ⟨bm,ob,b1,b2,hbG,hbP,F.keep _ _ b3,b4,b5,b6⟩ fun ctv h' tk hk hsz => ?_
    have hx' :∀ b o,s.heap.get? b = some o → (h'.push (kla_obj "<lambda>" (cn ++ ".<locals>." ++ "<lambda>") params body scope clos ((mg "__name__").getD .none) c' ctv)).get? b = some o :=fun b o e => Heap.get?_push_of_some _ (hk b o e)
    exact h _ c' ctv ps _ tk (fun b o _ e => hx' b o e) (hx' _ _ hP) (ht.more hP fun b o _ e => hx' b o e) (Heap.get?_push_size _ rfl) (hrec.keeps hx') (Heap.get?_none_of_le hsz)
end
end
theorem kw57 :True :=by
  (k_with "mRangeRest" => (refine toStop ?_))
  (k_with "mexec For Tuple Call" => (refine toStop ?_))
  (k_with "msetItem ref int" => (refine toStop ?_))
  trivial
end
section
section
theorem kw58 :True :=by
  (k_with "msetItem ref int" => (k_extra "r8"))
  (k_with "mRangeRest" => (refine Wait.h ?_))
  (k_with "mexec For Tuple Call" => (k_extra "r6"))
  trivial
theorem enterL {w :World} {A :Around} {s :Shared} {mg mb :Str → Option Value} {G :Heap} {R :Result → Shared → Prop} (hid :List Addr)
    {name qual :Str} {params :Arguments} {body :Expr} {scope :Scope} {cl :List (Str × Addr)} {pm ctv :Value} {c' f :Addr}
    (gh :GH w mg mb G) (st :Stay G s.heap) (hG :∀ a ∈ hid,G.get? a = none) (hroom :A.depth < recursionLimit)
    (ho :s.heap.get? f = some (kla_obj name qual params body scope cl pm c' ctv)) (hcd :s.heap.CodeRec (.ref c') qual)
    (hbind :bindArgs (kla_fn name qual params body scope cl pm (.ref c') ctv) ⟨[],[]⟩ = pure [])
    (h :∀ g L' h₁ tk loose mean,Fr g L' h₁ (fun _ => none) → (Mine.hd.heap_39 w.params).In g → Top topProg loose mean mg mb g → Stay G g →
      (∀ b o,s.heap.get? b = some o → b ∉ hid → g.get? b = some o) → (∀ b o,g.get? b = some o → s.heap.get? b = some o ∧ b ∉ hid) → s.heap.get? L' = none → Stay s.heap h₁ →
      wpAny (model PG w) (A.deeper (envX qual scope L' f (.ref c') cl)) (eval body (envX qual scope L' f (.ref c') cl)) (fun v s' => R (.ok (.ret v)) s')
        (fun e s' => wpAny (model PG w) (A.deeper (envX qual scope L' f (.ref c') cl)) (leaving (envX qual scope L' f (.ref c') cl) e) (fun _ s'' => R (.error e) s'') (fun e' s'' => R (.error e') s'') s')
        { s with heap :=h₁,toks :=tk })
    (hco :scope.isCoroutine = false) (hgen :scope.isGenerator = false) (hk :scope.kind = .function) (hcell :∀ x ∈ scope.names,x.2 ≠ .cell) :
    codeAny (model PG w) A (.call (.ref f) ⟨[],[]⟩) R s :=by
  obtain ⟨loose,mean,T⟩ :_ :=gh.T
  have hS :=T.nolimit.keeps st
  have sg :Stay G (hideAll s.heap hid) :=fun b o e => hideAll_get _ (st b o e) fun q => by rw [hG b q] at e; cases e
  refine kla_callFunE hroom ho rfl hco hgen rfl hcd ?_
  rw [hbind]
  refine wpAny_pure (wpAny_newFunctionEnv hcell (fun _ h => nomatch h) (fun h₁ hns hsb => ⟨hS.fresh _ hsb,?_⟩) hk)
  show codeAny _ _ (.expr body (envX qual scope s.heap.objs.size f (.ref c') cl)) _ _
  have hk₁ :∀ b o,s.heap.get? b = some o → h₁.get? b = some o :=fun b o e => hsb.extBut b o (Nat.ne_of_lt (Heap.lt_size e)) (Heap.get?_push_of_some _ e)
  refine kla_codeExpr (h (hideAll s.heap hid) s.heap.objs.size h₁ _ loose mean ⟨hns,fun b o e => hk₁ b o (of_hideAll _ e),Nat.le_of_eq (hideAll_size _ _)⟩ (gh.X.keeps sg) (T.keeps sg) sg
    (fun b o e nb => hideAll_get _ e nb) (fun b o e => ⟨of_hideAll _ e,fun q => by rw [hideAll_none _ q] at e; cases e⟩) (Heap.get?_none_of_le (Nat.le_refl _)) hk₁)
theorem enterCH {w :World} {A :Around} {s :Shared} {mg mb :Str → Option Value} {G :Heap} {R :Result → Shared → Prop} (hid :List Addr)
    {name qual :Str} {params :Arguments} {body :List Stmt} {scope :Scope} {dV kV doc pm cdv ct oc :Value} {an od :Option Addr} {osl :Array (Option Value)} {f :Addr} {args :Args} {binds :List (Str × Value)}
    (gh :GH w mg mb G) (st :Stay G s.heap) (hG :∀ a ∈ hid,G.get? a = none) (hroom :A.depth < recursionLimit)
    (ho :(Mine.hd.heap_39 w.params).lookup f = some ⟨oc,od,.func (fnOf name qual params body scope dV kV doc pm an cdv ct),osl⟩)
    (hcd :codeIn (Mine.hd.heap_39 w.params) cdv qual = true)
    (hbind :BindsTo s (fnOf name qual params body scope dV kV doc pm an cdv ct) args binds)
    (hkind :(binds.all fun y => scope.names.lookup y.1 == some .local || scope.names.lookup y.1 == some .cell) = true)
    (hnd :((cellsFrom 0 scope.names []).map (·.1)).Nodup)
    (h :∀ g L' h₁ tk cells loose mean,Fr g L' h₁ (bindL (envOfC qual scope L' f cdv).kindOf binds fun _ => none) → News g L' h₁ cells →
      CellsAre (bindC (envOfC qual scope L' f cdv).kindOf binds fun _ => none) (cellsFrom (L' + 1) scope.names []) cells → (Mine.hd.heap_39 w.params).In g → Top topProg loose mean mg mb g → Stay G g →
      (∀ b o,s.heap.get? b = some o → b ∉ hid → g.get? b = some o) → (∀ b o,g.get? b = some o → s.heap.get? b = some o ∧ b ∉ hid) → s.heap.get? L' = none → Stay s.heap h₁ → (∀ p ∈ cells,s.heap.get? p.1 = none) →
      wpAny (model PG w) (A.deeper (envOfC qual scope L' f cdv)) (execs body (envOfC qual scope L' f cdv))
        (fun fl s' => R (.ok (.ret (match fl with | .ret v => v | _ => .none))) s')
        (fun e s' => wpAny (model PG w) (A.deeper (envOfC qual scope L' f cdv)) (leaving (envOfC qual scope L' f cdv) e) (fun _ s'' => R (.error e) s'') (fun e' s'' => R (.error e') s'') s')
        { s with heap :=h₁,toks :=tk })
    (hco :scope.isCoroutine = false) (hgen :scope.isGenerator = false) (hk :scope.kind = .function) :codeAny (model PG w) A (.call (.ref f) args) R s :=by
  obtain ⟨loose,mean,T⟩ :_ :=gh.T
  have hS :=T.nolimit.keeps st
  have sg :Stay G (hideAll s.heap hid) :=fun b o e => hideAll_get _ (st b o e) fun q => by rw [hG b q] at e; cases e
  refine codeAny_call_function hroom (st _ _ (gh.X _ _ ho)) rfl hco hgen rfl (codeRec_of (gh.X.keeps st) hcd) (hbind _ _ _ _ ?_)
  refine wpAny_newFunctionEnv_cells hk (kindsX hkind _) fun env' he s' x => ?_
  subst he
  refine ⟨hS.keeps x.toInCall.keep,codeAny_func ?_⟩
  obtain ⟨h₁,tk,rfl,_⟩ :_ :=x.done
  have hk₁ :=x.toInCall.keep
  obtain ⟨cells,NC,Y⟩ :_ :=Cl.news (h₀ :=s.heap) (Nat.le_refl _) fun n c hm => ⟨x.cell n c (lookup_of_mem_nodup (cellsFrom_names scope.names 0 (s.heap.objs.size + 1) [] [] rfl ▸ hnd) hm),x.above n c hm⟩
  refine h (hideAll s.heap hid) s.heap.objs.size h₁ tk cells loose mean ⟨x.toInCall.ns,fun b o e => hk₁ b o (of_hideAll _ e),Nat.le_of_eq (hideAll_size _ _)⟩ (fun p hp => ⟨(NC p hp).1,(NC p hp).2.1,hide_none (NC p hp).2.2⟩) Y (gh.X.keeps sg) (T.keeps sg) sg
    (fun b o e nb => hideAll_get _ e nb) (fun b o e => ⟨of_hideAll _ e,fun q => by rw [hideAll_none _ q] at e; cases e⟩) (Heap.get?_none_of_le (Nat.le_refl _)) hk₁ fun p hp => (NC p hp).2.2
end
theorem kw59 :True :=by
  (k_with "mRangeRest" => (refine toStop ?_))
  (k_with "mexec For Tuple Call" => (refine toStop ?_))
  (k_with "msetItem ref int" => (refine toStop ?_))
  trivial
end
section
section
theorem kw60 :True :=by
  (k_with "msetItem ref int" => (k_extra "r8"))
  (k_with "mRangeRest" => (refine Wait.h ?_))
  (k_with "mexec For Tuple Call" => (k_extra "r6"))
  trivial
theorem kw61 :True :=by
  (k_with "meval ListComp" => (k_extra "r2"))
  (k_with "mcall ref" => (((with_reducible show wpAny _ _ (call (.ref 252) _) _ _ _); first | k_extra "q21" | k_dflt (k_extra "q21"))))
  trivial
section
variable (w dp un fr gd s mg mb G news)
noncomputable abbrev need_changeable_ok_Q (l n :Nat) (ps :List PR) :Prop :=∀ (gh :GH w mg mb G) (st :Stay G s.heap) (hn :HN G s.heap news) (lv :Lv dp un 3) (q1 :(l,listOf (refs ps).toArray n) ∈ news) (hs :∀ q ∈ flat w.params ps,q ∈ news) (ok :∀ p ∈ ps,p.Ok) (hl :ps.length ≤ 8) (hf :∀ p ∈ ps,p.e.raw.getD 8 0 < 128),wpAny (model rw_tg0048_01.row.prog w) (AR dp un fr gd) (call (.ref 292) [.ref l]) (RetG s news IsN) (fun _ _ => False) s
end
theorem need_changeable_ok_L :∀ w dp un fr gd s mg mb G news l n ps,need_changeable_ok_Q w dp un fr gd s mg mb G news l n ps :=by
  intro w dp un fr gd s mg mb G news l n ps
  delta need_changeable_ok_Q
  intro gh st hn lv q1 hs ok hl hf
  cell_enter
  k_steps
  k_dflt (refine refs_src (by rfl) (by k_asm) (by k_asm) q1 (fun p hp => hs _ (flat_mem hp List.mem_cons_self)) hl (fun p y => y = .bool (decide (128 ≤ p.e.raw.getD 8 0))) ?_ ?_)
  · intro p C oC D ys m₂ s' news' E' hp hC h1 h2 hs' F N
    have in1 :∀ q ∈ one w.params p,q ∈ news' :=fun q hq => hs' q (hs q (flat_mem hp hq))
    have f2 :(p.x.e,instObj 74 p.x.ed) ∈ news' :=in1 _ (by simp)
    have f3 :(p.x.ed,dictOf (entD w.params p.x p.e.user p.e.ext p.e.sp p.e.ct) 6) ∈ news' :=in1 _ (by simp)
    have f4 :(p.x.rl,listOf p.ws.toArray p.x.rn) ∈ news' :=in1 _ (by simp)
    have f5 :=(ok p hp).hw
    have f6 :=(ok p hp).lw
    k_steps
    exact outL (by assumption) (by assumption) rfl
  · intro D h tk ys hp F N o1
    have hb :=paired_bools hp
    k_steps
    · exfalso
      rename (ps.any _) = true => ha
      obtain ⟨p,hp,h8⟩ :=List.any_eq_true.mp ha
      have h8 :=of_decide_eq_true h8
      have :=hf p hp
      omega
    · tb_start
      exact ⟨rfl,rfl⟩
theorem need_changeable_ok {l n :Nat} {ps :List PR} :need_changeable_ok_Q w dp un fr gd s mg mb G news l n ps :=need_changeable_ok_L w dp un fr gd s mg mb G news l n ps
end
theorem kw62 :True :=by
  (k_with "mRangeRest" => (refine toStop ?_))
  (k_with "mcall ref" => (refine toStop ?_))
  (k_with "meval ListComp" => (refine toStop ?_))
  (k_with "mexec For Tuple Call" => (refine toStop ?_))
  (k_with "msetItem ref int" => (refine toStop ?_))
  trivial
end
section
section
theorem kw63 :True :=by
  (k_with "msetItem ref int" => (k_extra "r8"))
  (k_with "mRangeRest" => (refine Wait.h ?_))
  (k_with "mexec For Tuple Call" => (k_extra "r6"))
  trivial
theorem Prs.noflag {f :Nat → Option Ent} {ps :List PR} (h :Prs f 8 ps) (hf :∀ r ∈ rowsF f,r.2.raw.getD 8 0 < 128) :∀ p ∈ ps,p.e.raw.getD 8 0 < 128 :=fun p hp => hf p.row (by rw [← h.rows8]; exact List.mem_map_of_mem hp)
theorem sub_one {x I :Addr} {o o' o2 :Obj} {R :List (Addr × Obj)} (la :x < I) (R0 :∀ p ∈ R,p.1 ≠ x) :∀ p ∈ ((I,o2) :: [] :List (Addr × Obj)) ++ (x,o') :: R,p ∈ (x,o') :: dropN x ((I,o2) :: (x,o) :: R) :=fun p hp => by
  simp only [List.cons_append,List.nil_append,List.mem_cons] at hp
  rcases hp with rfl | rfl | hp
  · exact List.mem_cons_of_mem _ (mem_dropN.mpr ⟨by simp,Nat.ne_of_gt la⟩)
  · exact List.mem_cons_self
  · exact List.mem_cons_of_mem _ (mem_dropN.mpr ⟨by simp [hp],R0 p hp⟩)
noncomputable def eraseAll (D :List Int) (rs :List (Nat × Ent)) :List Int :=rs.foldl (fun D r => D.set (32 * r.1) 229) D
theorem eraseAll_length {D :List Int} {rs :List (Nat × Ent)} :(eraseAll D rs).length = D.length :=by
  unfold eraseAll
  induction rs generalizing D with
  | nil => rfl
  | cons r rs ih => rw [List.foldl_cons,ih,List.length_set]
theorem eraseAll_snoc {D :List Int} {rs :List (Nat × Ent)} {r :Nat × Ent} :eraseAll D (rs ++ [r]) = (eraseAll D rs).set (32 * r.1) 229 :=by simp [eraseAll]
theorem tup_list {vs :List Value} {u :Array Value} {n :Nat} :tupOf vs ≠ listOf u n :=fun e => absurd (Value.type.inj (congrArg Obj.cls e)) (by decide)
theorem in_drop {g h :Heap} {L x l :Addr} {o ol :Obj} {led :List (Addr × Obj)} (N :News g L h led) (hm :(x,o) ∈ led) (ha :(l,ol) ∈ led) (ne :o ≠ ol) :(x,o) ∈ dropN l led :=mem_dropN.mpr ⟨hm,News.ne N hm ha ne⟩
theorem head_in {z :Addr × Obj} {r led :List (Addr × Obj)} (h :z :: r = led) :z ∈ led :=h ▸ List.mem_cons_self
theorem take_row {ps :List PR} {i :Nat} {p :PR} (h :ps[i]? = some p) :(ps.take (i + 1)).map PR.row = (ps.take i).map PR.row ++ [p.row] :=by
  rw [List.take_add_one,h,List.map_append]
  rfl
theorem kw64 :True :=by
  (k_with "mcall ref" => (((with_reducible show wpAny _ _ (call (.ref 113) _) _ _ _); first | k_extra "q7" | k_dflt (k_extra "q7"))))
  (k_with "mcall ref" => (((with_reducible show wpAny _ _ (call (.ref 259) _) _ _ _); first | k_extra "q13" | k_dflt (k_extra "q13"))))
  (k_with "q22" => ((refine useV (need_changeable_ok (by assumption) (by ktr_unf) (by ktr_units) (by ktr_room) (by k_mem) (fun q hq => List.mem_cons_of_mem _ (List.mem_append_left _ hq)) (Prs.ok (by assumption)) (Prs.len (by assumption)) (Prs.noflag (by assumption) (by assumption))) (by k_asm) (by k_asm) ?_; kst_mem)))
  (k_with "mcall ref" => (((with_reducible show wpAny _ _ (call (.ref 292) _) _ _ _); first | k_extra "q22" | k_dflt (k_extra "q22"))))
  (k_with "mcall ref" => ((refine useL (o₀ :=listOf _ _) (erase_entry_ok (by assumption) (by ktr_unf) (by ktr_units) (by ktr_room) (by tb_rel) (by omega) (by omega)) (by k_asm) (by k_asm) (by k_mem) ?_; kpc_fact)))
  (k_with "mexec For Tuple Name cons nil" => (k_extra "r7"))
  (k_with "mcall builtin:len" => ((refine len_refs (by k_asm) (by k_mem) (Prs.len (by assumption)) ?_)))
  trivial
section
variable (w dp un fr gd s mg mb G news a vs D)
noncomputable abbrev delete_ok_Q (l n :Nat) (ws :List Value) (ps :List Int) (u :Int) (t :Tok) :Prop :=∀ (gh :GH w mg mb G) (st :Stay G s.heap) (hn :HN G s.heap news) (lv :Lv dp un 7) (dm :DM w.params a vs D news) (q1 :(l,listOf ws.toArray n) ∈ news) (qI :IntsAre ws ps) (ql :ps.length = 11) (hu :u ≠ 229) (hf :∀ r ∈ rowsF (findF D u ps),r.2.raw.getD 8 0 < 128),wpAny (model rw_tg0048_01.row.prog w) (AR dp un fr gd) (call (.ref 299) [.ref a.d,.int u t,.ref l]) (MutG s news a.l (LaysI a.n (rowsF (findF D u ps)).length (eraseAll D (rowsF (findF D u ps))))) (fun _ _ => False) s
end
theorem delete_ok_L :∀ w dp un fr gd s mg mb G news a vs D l n ws ps u t,delete_ok_Q w dp un fr gd s mg mb G news a vs D l n ws ps u t :=by
  intro w dp un fr gd s mg mb G news a vs D l n ws ps u t
  delta delete_ok_Q
  intro gh st hn lv dm q1 qI ql hu hf
  have dm0 :=dm
  obtain ⟨m1,m2,m3,m4,hI,hl⟩ :=dm
  cell_enter
  k_steps
  rename Fr _ _ _ _ => F1
  rename News _ _ _ _ => N1
  rename Prs _ _ _ => hP
  rename Apart _ _ => hsep
  rename List PR => qs
  have lq :=hP.len
  have e9 :=hI.length
  generalize hled :(_ :: (flat w.params _ ++ news) :List (Addr × Obj)) = led at N1
  have up :∀ q ∈ news,q ∈ led :=fun q hq => by rw [← hled]; exact List.mem_cons_of_mem _ (List.mem_append_right _ hq)
  have upf :∀ p ∈ qs,∀ q ∈ one w.params p,q ∈ led :=fun p hp q hq => by rw [← hled]; exact List.mem_cons_of_mem _ (List.mem_append_left _ (flat_mem hp hq))
  have in0 :=head_in hled
  have R0 :∀ p ∈ dropN a.l led,p.1 ≠ a.l :=dropN_ne
  have R1 :=in_drop N1 (up _ m1) (up _ m4) inst_list
  have R2 :=in_drop N1 (up _ m2) (up _ m4) dict_list'
  have R3 :=in_drop N1 (up _ m3) (up _ m4) (list_ne (by simp; omega))
  have R4 :=in_drop N1 in0 (up _ m4) (list_ne (by simp; omega))
  have R5 :∀ p ∈ qs,(p.T,tupOf [.int (p.num :Nat) p.tn,.ref p.x.e]) ∈ dropN a.l led :=fun p hp => in_drop N1 (upf p hp _ List.mem_cons_self) (up _ m4) tup_list
  have R6 :∀ q ∈ news,q.1 ≠ a.l → q ∈ dropN a.l led :=fun q hq nq => mem_dropN.mpr ⟨up q hq,nq⟩
  have sub0 :∀ p ∈ (a.l,listOf vs.toArray a.n) :: dropN a.l led,p ∈ led :=fun p hp => by
    rcases List.mem_cons.mp hp with rfl | hp
    · exact up _ m4
    · exact (mem_dropN.mp hp).1
  generalize dropN a.l led = R at R0 R1 R2 R3 R4 R5 R6 sub0
  refine list_turns (items :=refs qs) (news :=(a.l,listOf vs.toArray a.n) :: R) (But2 _ (Str.ofString "number") (Str.ofString "entry")) (fun I i nw => ∃ vs' :List Value,nw = (a.l,listOf vs'.toArray a.n) :: R ∧ IntsAre vs' (eraseAll D ((qs.take i).map PR.row)) ∧ ∀ p ∈ nw,p.1 < I) (by rfl) (by exact F1) (by exact N1) sub0 (List.mem_cons_of_mem _ R4) (fun I i nw ⟨vs',e,_⟩ => e ▸ List.mem_cons_of_mem _ R4) ?_ but2_start (fun I h => ⟨vs,rfl,hI,h⟩) ?_
  · (intro I i v m₁ nw h tk it lt hv; rintro ⟨v1,v2,rfl⟩; rintro ⟨vs',rfl,hI',lt'⟩; intro F' N')
    clear F1 N1
    rw [List.getElem?_map] at hv
    obtain ⟨p,hq,hv'⟩ :=Option.map_eq_some_iff.mp hv
    · have hv' :Value.ref p.T = v :=hv'
      subst hv'
      have hp :p ∈ qs :=List.mem_of_getElem? hq
      have f1 :=R5 p hp
      have nm :=(hP.ok p hp).nm
      have dmI :DM w.params a vs' (eraseAll D ((qs.take i).map PR.row)) ((a.l,listOf vs'.toArray a.n) :: R) :=⟨List.mem_cons_of_mem _ R1,List.mem_cons_of_mem _ R2,List.mem_cons_of_mem _ R3,List.mem_cons_self,hI',by rw [eraseAll_length,hl]⟩
      clear dm0 m1 m2 m3 m4 hI
      k_steps
      rename IntsAre _ (List.set _ _ _) => q
      rw [Int.toNat_natCast] at q
      refine turnEnd2 (_ :: R) (by k_asm) (by exact News.sub (by k_asm) (sub_one (lt_head lt') R0)) (off_one (lt_same lt')) but2_again ⟨_,rfl,?_,lt_same lt'⟩
      rw [take_row hq,eraseAll_snoc]
      exact q
  · (intro I m₁ nw h tk; rintro ⟨v1,v2,rfl⟩; rintro ⟨vs',rfl,hI',lt'⟩; intro F' N')
    clear F1 N1
    have hc :=hP.count
    have hr :=hP.rows8
    rw [show (refs qs).length = qs.length from List.length_map ..,List.take_length,hr] at hI'
    k_steps
    try dsimp only
    refine mutG [] (by assumption) (by assumption) (by assumption) (by assumption) (fun q hq nq => List.mem_cons_of_mem _ (R6 q hq nq)) List.mem_cons_self (fun _ h => nomatch h) (fun _ h => nomatch h) ⟨⟨_,congrArg (fun k :Nat => Value.int (k :Int) _) hc⟩,rfl,_,rfl,hI'⟩
theorem delete_ok {l n :Nat} {ws :List Value} {ps :List Int} {u :Int} {t :Tok} :delete_ok_Q w dp un fr gd s mg mb G news a vs D l n ws ps u t :=delete_ok_L w dp un fr gd s mg mb G news a vs D l n ws ps u t
end
theorem kw65 :True :=by
  (k_with "mRangeRest" => (refine toStop ?_))
  (k_with "mcall builtin:len" => (refine toStop ?_))
  (k_with "mcall ref" => (refine toStop ?_))
  (k_with "mexec For Tuple Call" => (refine toStop ?_))
  (k_with "mexec For Tuple Name cons nil" => (refine toStop ?_))
  (k_with "msetItem ref int" => (refine toStop ?_))
  trivial
end
section
section
theorem kw66 :True :=by
  (k_with "msetItem ref int" => (k_extra "r8"))
  (k_with "mRangeRest" => (refine Wait.h ?_))
  (k_with "mexec For Tuple Call" => (k_extra "r6"))
  trivial
structure EJ (P :Params) (a :DA) (news :List (Addr × Obj)) (qs :List PR) (fo :Addr × Obj) (Dn :List Int) (I i :Nat) (nw :List (Addr × Obj)) :Prop where
  da :∃ vs' :List Value,(a.l,listOf vs'.toArray a.n) ∈ nw ∧ IntsAre vs' Dn
  d1 :(a.d,instObj 53 a.dd) ∈ nw
  d2 :(a.dd,dictOf (diskD P a) 7) ∈ nw
  d3 :(a.gl,listOf [].toArray a.gn) ∈ nw
  f0 :fo ∈ nw
  old :∀ q ∈ news,q.1 ≠ a.l → q ∈ nw
  ent :∀ j p,i ≤ j → qs[j]? = some p → ∀ q ∈ one P p,q ∈ nw
  lt :∀ p ∈ nw,p.1 < I
noncomputable def editAll (g :List Int → List Int) (D :List Int) (rs :List (Nat × Ent)) :List Int :=rs.foldl (fun D r => lay D (32 * r.1) (entOcts { r.2 with raw :=g r.2.raw })) D
theorem editAll_snoc {g :List Int → List Int} {D :List Int} {rs :List (Nat × Ent)} {r :Nat × Ent} :editAll g D (rs ++ [r]) = lay (editAll g D rs) (32 * r.1) (entOcts { r.2 with raw :=g r.2.raw }) :=by simp [editAll]
theorem paired_intsA {α :Type} {f :α → Int} {rs :List α} {ys :List Value} (h :Paired (fun n y => ∃ u,y = Value.int (f n) u) rs ys) :IntsAre ys (rs.map f) :=by
  induction h with
  | nil => exact .nil
  | cons h _ ih => obtain ⟨u,rfl⟩ :_ :=h; exact .cons _ _ ih
theorem dict_tup {es :List DictEntry} {k :Nat} {vs :List Value} :tupOf vs ≠ dictOf es k :=fun e => absurd (Value.type.inj (congrArg Obj.cls e)) (by decide)
theorem dict_inst {es :List DictEntry} {k c d :Nat} :instObj c d ≠ dictOf es k :=fun e => by cases e
theorem list_dict {es :List DictEntry} {k :Nat} {u :Array Value} {n :Nat} :listOf u n ≠ dictOf es k :=fun e => dict_list' e.symm
theorem dict_ne {es es' :List DictEntry} {k k' :Nat} (h :k ≠ k') :dictOf es k ≠ dictOf es' k' :=fun e => by
  have e' :Data.dict _ _ = Data.dict _ _ :=congrArg Obj.data e
  injection e' with _ h2
  exact h h2
theorem editAll_length {g :List Int → List Int} {D :List Int} {rs :List (Nat × Ent)} (hl :D.length = 1408) (h :∀ r ∈ rs,r.1 < 8 ∧ (g r.2.raw).length = 11 ∧ r.2.map.length = 16) :(editAll g D rs).length = 1408 :=by
  unfold editAll
  induction rs generalizing D with
  | nil => exact hl
  | cons r rs ih =>
    have hr :=h r List.mem_cons_self
    refine ih ?_ fun q hq => h q (List.mem_cons_of_mem _ hq)
    rw [lay_length,hl]
    have :=entOcts_length (t :={ r.2 with raw :=g r.2.raw }) hr.2.1 hr.2.2
    rw [this]
    omega
theorem sub_fil {x D₁ ed I :Addr} {o' o1 o2 it :Obj} {R :List (Addr × Obj)} (la :x < I) (iI :(I,it) ∈ R) :∀ p ∈ ((I,it) :: [] :List (Addr × Obj)) ++ (x,o') :: R.filter (fun q => decide (q.1 < I) && decide (q.1 ≠ x)),p ∈ (x,o') :: dropN x ((D₁,o1) :: (ed,o2) :: R) :=fun p hp => by
  simp only [List.cons_append,List.nil_append,List.mem_cons] at hp
  rcases hp with rfl | rfl | hp
  · exact List.mem_cons_of_mem _ (mem_dropN.mpr ⟨List.mem_cons_of_mem _ (List.mem_cons_of_mem _ iI),Nat.ne_of_gt la⟩)
  · exact List.mem_cons_self
  · have h :=List.mem_filter.mp hp
    simp only [Bool.and_eq_true,decide_eq_true_eq] at h
    exact List.mem_cons_of_mem _ (mem_dropN.mpr ⟨List.mem_cons_of_mem _ (List.mem_cons_of_mem _ h.1),h.2.2⟩)
theorem lt_fil {x I :Addr} {o' :Obj} {R :List (Addr × Obj)} (la :x < I) :∀ p ∈ (x,o') :: R.filter (fun q => decide (q.1 < I) && decide (q.1 ≠ x)),p.1 < I :=fun p hp => by
  rcases List.mem_cons.mp hp with rfl | hp
  · exact la
  · have h :=(List.mem_filter.mp hp).2
    simp only [Bool.and_eq_true,decide_eq_true_eq] at h
    exact h.1
theorem far_at {qs :List PR} {i j :Nat} {p r :PR} (h :qs.Pairwise Far) (hi :qs[i]? = some p) (hj :qs[j]? = some r) (hlt :i < j) :Far p r :=by
  obtain ⟨h1,rfl⟩ :_ :=List.getElem?_eq_some_iff.mp hi
  obtain ⟨h2,rfl⟩ :_ :=List.getElem?_eq_some_iff.mp hj
  exact List.pairwise_iff_getElem.mp h i j h1 h2 hlt
noncomputable def flagOne (p :Int × Int) :Int :=Builtin.bitOr (Builtin.bitAnd p.1 127) (Builtin.bitAnd p.2 128)
noncomputable def flagRaw (fs rs :List Int) :List Int :=(rs.zip fs).map flagOne
theorem kw67 :True :=by
  (k_with "mexec Assign cons ListComp" => (k_extra "r5"))
  (k_with "meval ListComp" => (k_extra "r2"))
  (k_with "mcall ref" => (((with_reducible show wpAny _ _ (call (.ref 113) _) _ _ _); first | k_extra "q7" | k_dflt (k_extra "q7"))))
  (k_with "q23" => ((refine useIL (bare_ok (by assumption) (by ktr_unf) (by ktr_units) (by ktr_room) (by k_mem) (by assumption) (by assumption)) (by k_asm) (by k_asm) ?_; kst_facts)))
  (k_with "mcall ref" => (((with_reducible show wpAny _ _ (call (.ref 240) _) _ _ _); first | k_extra "q23" | k_dflt (k_extra "q23"))))
  (k_with "q24" => ((refine useP (find_ok (by assumption) (by ktr_unf) (by ktr_units) (by ktr_room) (by tb_rel) (by k_mem) (by assumption) (by simp only [List.length_map]; assumption) (by assumption)) (by k_asm) (by k_asm) ?_; kpc_obj)))
  (k_with "mcall ref" => (((with_reducible show wpAny _ _ (call (.ref 259) _) _ _ _); first | k_extra "q24" | k_dflt (k_extra "q24"))))
  (k_with "mexec For Tuple Name cons nil" => (k_extra "r7"))
  (k_with "mcall builtin:len" => ((refine len_refs (by k_asm) (by k_mem) (Prs.len (by assumption)) ?_)))
  trivial
section
variable (w dp un fr gd s mg mb G news a vs D)
noncomputable abbrev set_attributes_ok_Q (l n :Nat) (ws :List Value) (ps :List Int) (u :Int) (t :Tok) :Prop :=∀ (gh :GH w mg mb G) (st :Stay G s.heap) (hn :HN G s.heap news) (lv :Lv dp un 7) (dm :DM w.params a vs D news) (q1 :(l,listOf ws.toArray n) ∈ news) (qI :IntsAre ws ps) (ql :ps.length = 11) (hu :u ≠ 229),wpAny (model rw_tg0048_01.row.prog w) (AR dp un fr gd) (call (.ref 309) [.ref a.d,.int u t,.ref l]) (MutG s news a.l (LaysI a.n (rowsF (findF D u (ps.map fun x => Builtin.bitAnd x 127))).length (editAll (flagRaw ps) D (rowsF (findF D u (ps.map fun x => Builtin.bitAnd x 127)))))) (fun _ _ => False) s
end
theorem set_attributes_ok_L :∀ w dp un fr gd s mg mb G news a vs D l n ws ps u t,set_attributes_ok_Q w dp un fr gd s mg mb G news a vs D l n ws ps u t :=by
  intro w dp un fr gd s mg mb G news a vs D l n ws ps u t
  delta set_attributes_ok_Q
  intro gh st hn lv dm q1 qI ql hu
  have dm0 :=dm
  obtain ⟨m1,m2,m3,m4,hI,hl⟩ :=dm
  cell_enter
  k_steps
  rename Fr _ _ _ _ => F1
  rename News _ _ _ _ => N1
  rename Prs _ _ _ => hP
  rename Apart _ _ => hsep
  rename List PR => qs
  have lq :=hP.len
  have e9 :=hI.length
  have e8 :=qI.length
  generalize hled :(_ :: (flat w.params _ ++ _) :List (Addr × Obj)) = led at N1
  have up :∀ q ∈ news,q ∈ led :=fun q hq => by rw [← hled]; exact List.mem_cons_of_mem _ (List.mem_append_right _ (List.mem_cons_of_mem _ hq))
  have upf :∀ p ∈ qs,∀ q ∈ one w.params p,q ∈ led :=fun p hp q hq => by rw [← hled]; exact List.mem_cons_of_mem _ (List.mem_append_left _ (flat_mem hp hq))
  have in0 :=head_in hled
  have nla :l ≠ a.l :=News.ne N1 (up _ q1) (up _ m4) (list_ne (by omega))
  refine list_turns (items :=refs qs) (news :=led) (But2 _ (Str.ofString "number") (Str.ofString "entry")) (fun I i nw => EJ w.params a news qs _ (editAll (flagRaw ps) D ((qs.take i).map PR.row)) I i nw) (by rfl) (by exact F1) (by exact N1) (fun _ h => h) in0 (fun I i nw h => h.f0) ?_ but2_start (fun I h => ⟨⟨vs,up _ m4,hI⟩,up _ m1,up _ m2,up _ m3,in0,fun q hq _ => up q hq,fun j p _ hj => upf p (List.mem_of_getElem? hj),h⟩) ?_
  · (intro I i v m₁ nw h tk it lt hv; rintro ⟨v1,v2,rfl⟩; intro J F' N')
    clear F1 N1
    rw [List.getElem?_map] at hv
    obtain ⟨p,hq,hv'⟩ :=Option.map_eq_some_iff.mp hv
    · have hv' :Value.ref p.T = v :=hv'
      subst hv'
      have hp :p ∈ qs :=List.mem_of_getElem? hq
      have okp :=hP.ok p hp
      have nm :=okp.nm
      rcases J with ⟨hj9,j2,j3,j4,j5,j6,j7,j8⟩
      obtain ⟨vs',j1,hI'⟩ :=hj9
      have g1 :=j7 i p (Nat.le_refl _) hq
      have hed :(p.x.ed,dictOf (entD w.params p.x p.e.user p.e.ext p.e.sp p.e.ct) 6) ∈ nw :=g1 _ (by simp)
      have N2 :=News.first N' (List.mem_cons_of_mem _ hed)
      have nl :(l,listOf ws.toArray n) ∈ nw :=j6 _ q1 nla
      have f1 :=in_drop N' (List.mem_cons_of_mem _ (g1 (p.T,tupOf [.int (p.num :Nat) p.tn,.ref p.x.e]) (by simp))) (List.mem_cons_of_mem _ hed) dict_tup
      have f2 :=in_drop N' (List.mem_cons_of_mem _ (g1 (p.x.e,instObj 74 p.x.ed) (by simp))) (List.mem_cons_of_mem _ hed) dict_inst
      have f3 :=in_drop N' (List.mem_cons_of_mem _ (g1 (p.x.rl,listOf p.ws.toArray p.x.rn) (by simp))) (List.mem_cons_of_mem _ hed) list_dict
      have f4 :=in_drop N' (List.mem_cons_of_mem _ (g1 (p.x.ml,listOf p.ms.toArray p.x.mn) (by simp))) (List.mem_cons_of_mem _ hed) list_dict
      have b1 :=in_drop N' (List.mem_cons_of_mem _ j2) (List.mem_cons_of_mem _ hed) dict_inst
      have b2 :=in_drop N' (List.mem_cons_of_mem _ j3) (List.mem_cons_of_mem _ hed) (dict_ne (by decide))
      have b3 :=in_drop N' (List.mem_cons_of_mem _ j4) (List.mem_cons_of_mem _ hed) list_dict
      have b4 :=in_drop N' (List.mem_cons_of_mem _ j1) (List.mem_cons_of_mem _ hed) list_dict
      have lD :(editAll (flagRaw ps) D ((qs.take i).map PR.row)).length = 1408 :=editAll_length hl fun r hr => by
        obtain ⟨q,hq',rfl⟩ :=List.mem_map.mp hr
        have oq :=hP.ok q (List.mem_of_mem_take hq')
        exact ⟨oq.nm,by simp [flagRaw,oq.lw,ql],oq.lm⟩
      have f5 :=in_drop N' (List.mem_cons_of_mem _ nl) (List.mem_cons_of_mem _ hed) list_dict
      have kd :∀ x o,(x,o) ∈ nw → o ≠ dictOf (entD w.params p.x p.e.user p.e.ext p.e.sp p.e.ct) 6 → x ≠ p.x.ed :=fun x o hx ho => News.ne N' (List.mem_cons_of_mem _ hx) (List.mem_cons_of_mem _ hed) ho
      have kl :∀ x o,(x,o) ∈ nw → o ≠ listOf vs'.toArray a.n → x ≠ a.l :=fun x o hx ho => News.ne N' (List.mem_cons_of_mem _ hx) (List.mem_cons_of_mem _ j1) ho
      have lv' :vs'.length = 1408 :=by rw [hI'.length,lD]
      have R0 :∀ q ∈ dropN p.x.ed ((I,it) :: nw),q.1 ≠ p.x.ed :=dropN_ne
      generalize hR :dropN p.x.ed ((I,it) :: nw) = R at N2 f1 f2 f3 f4 f5 b1 b2 b3 b4 R0
      clear dm0 m1 m2 m3 m4 hI N'
      k_steps
      k_dflt (refine zip_src (by rfl) (by k_asm) (by k_asm) (by k_mem) (by k_mem) okp.hw qI (by rw [okp.lw]; decide) (fun q y => ∃ u,y = .int (flagOne q) u) ?_ ?_)
      · intro a₁ b₁ t₁ u₁ C oC D₁ ys m₂ s' news' E' ha hb hC h1 h2 hs F N
        k_steps
        all_goals exact outL (by assumption) (by assumption) ⟨_,rfl⟩
      · intro D₁ h₁ tk₁ ys hp₁ F N o1
        have hb :=paired_intsA hp₁
        have nd :@Ne Nat D₁ p.x.ed :=Ne.symm (o1 _ List.mem_cons_self)
        k_steps
        have dmI :DM w.params a vs' (editAll (flagRaw ps) D ((qs.take i).map PR.row)) R :=⟨b1,b2,b3,b4,hI',lD⟩
        refine useL (o₀ :=listOf vs'.toArray a.n) (write_entry_ok (x :={ p.x with rl :=D₁,rn :=_ }) (e :={ p.e with raw :=flagRaw ps p.e.raw }) (by assumption) (by ktr_unf) (by ktr_units) (by ktr_room) (by tb_rel) ⟨by k_mem,by k_mem,by k_mem,by k_mem,hb,okp.hm,by simp [flagRaw,okp.lw,ql],okp.lm⟩ (by omega) (by omega)) (by k_asm) (by k_asm) (by k_mem) ?_
        kpc_fact
        k_steps
        rename News _ _ _ (_ :: dropN _ _) => N9
        rename IntsAre _ (lay _ _ _) => q9
        rw [Int.toNat_natCast] at q9
        have la :a.l < I :=j8 _ j1
        have kq :∀ q ∈ nw,q.1 ≠ p.x.ed → q.1 ≠ a.l → q.1 < I ∧ q ∈ R :=fun q hq h1 h2 => ⟨j8 q hq,by rw [← hR]; exact mem_dropN.mpr ⟨List.mem_cons_of_mem _ hq,h1⟩⟩
        have iI :(I,it) ∈ R :=by rw [← hR]; exact mem_dropN.mpr ⟨List.mem_cons_self,Nat.ne_of_gt (j8 _ hed)⟩
        refine turnEnd2 (_ :: R.filter (fun q => decide (q.1 < I) && decide (q.1 ≠ a.l))) (by k_asm) (by exact News.sub N9 (sub_fil la iI)) (off_one (lt_fil la)) but2_again ?_
        have inn :∀ (o' :Obj),∀ q ∈ nw,q.1 ≠ p.x.ed → q.1 ≠ a.l → q ∈ (a.l,o') :: R.filter (fun q => decide (q.1 < I) && decide (q.1 ≠ a.l)) :=fun o' q hq h1 h2 => List.mem_cons_of_mem _ (List.mem_filter.mpr ⟨(kq q hq h1 h2).2,by simp [(kq q hq h1 h2).1,h2]⟩)
        refine ⟨⟨_,List.mem_cons_self,?_⟩,?_,?_,?_,?_,?_,?_,lt_fil la⟩
        · rw [take_row hq,editAll_snoc]; exact q9
        · exact inn _ _ j2 (kd _ _ j2 dict_inst) (kl _ _ j2 inst_list)
        · exact inn _ _ j3 (kd _ _ j3 (dict_ne (by decide))) (kl _ _ j3 dict_list')
        · exact inn _ _ j4 (kd _ _ j4 list_dict) (kl _ _ j4 (list_ne (by simp; omega)))
        · exact inn _ _ j5 (kd _ _ j5 list_dict) (kl _ _ j5 (list_ne (by simp; omega)))
        · intro q hq nq
          refine inn _ q (j6 q hq nq) ?_ nq
          exact hsep (p.x.ed,dictOf (entD w.params p.x p.e.user p.e.ext p.e.sp p.e.ct) 6) (List.mem_cons_of_mem _ (flat_mem hp (by simp))) q (List.mem_cons_of_mem _ hq)
        · intro j r hj hr q hq'
          have hr' :r ∈ qs :=List.mem_of_getElem? hr
          have okr :=hP.ok r hr'
          have hqn :=j7 j r (by omega) hr q hq'
          have hfar :Far p r :=far_at hP.far hq hr (by omega)
          have lw :=okr.hw.length
          have lm :=okr.hm.length
          have lw' :=okr.lw
          have lm' :=okr.lm
          simp only [List.mem_cons,List.not_mem_nil,or_false] at hq'
          rcases hq' with rfl | rfl | rfl | rfl | rfl
          · exact inn _ _ hqn (kd _ _ hqn dict_tup) (kl _ _ hqn tup_list)
          · exact inn _ _ hqn (kd _ _ hqn list_dict) (kl _ _ hqn (list_ne (by omega)))
          · exact inn _ _ hqn (kd _ _ hqn list_dict) (kl _ _ hqn (list_ne (by omega)))
          · exact inn _ _ hqn (kd _ _ hqn dict_inst) (kl _ _ hqn inst_list)
          · exact inn _ _ hqn (Ne.symm hfar.1) (kl _ _ hqn dict_list')
  · (intro I m₁ nw h tk; rintro ⟨v1,v2,rfl⟩; intro J F' N')
    clear F1 N1
    rcases J with ⟨hj9,j2,j3,j4,f0,j6,j7,j8⟩
    obtain ⟨vs',j1,hI'⟩ :=hj9
    have hc :=hP.count
    have hr :=hP.rows8
    rw [show (refs qs).length = qs.length from List.length_map ..,List.take_length,hr] at hI'
    k_steps
    try dsimp only
    refine mutG [] (by assumption) (by assumption) (by assumption) (by assumption) (fun q hq nq => j6 q hq nq) j1 (fun _ h => nomatch h) (fun _ h => nomatch h) ⟨⟨_,congrArg (fun k :Nat => Value.int (k :Int) _) hc⟩,rfl,_,rfl,hI'⟩
theorem set_attributes_ok {l n :Nat} {ws :List Value} {ps :List Int} {u :Int} {t :Tok} :set_attributes_ok_Q w dp un fr gd s mg mb G news a vs D l n ws ps u t :=set_attributes_ok_L w dp un fr gd s mg mb G news a vs D l n ws ps u t
end
theorem kw68 :True :=by
  (k_with "mRangeRest" => (refine toStop ?_))
  (k_with "mcall builtin:len" => (refine toStop ?_))
  (k_with "mcall ref" => (refine toStop ?_))
  (k_with "meval ListComp" => (refine toStop ?_))
  (k_with "mexec Assign cons ListComp" => (refine toStop ?_))
  (k_with "mexec For Tuple Call" => (refine toStop ?_))
  (k_with "mexec For Tuple Name cons nil" => (refine toStop ?_))
  (k_with "msetItem ref int" => (refine toStop ?_))
  trivial
end
section
open PySem PySem.W PySem.Calls PySem.Spec PyProof.Rows
section
open PyProof.Rows.LCg
section
variable {prog :Program} {w :World} {A :Around} {E :Value → Shared → Prop} {R :Result → Shared → Prop} {s :Shared}
theorem compTurn_two0 (elt t0 i0 t1 i1 :Expr) (scope :Scope) (pos :Pos) (it acc :Value) (env :Env) :
    compTurn (.ListComp elt [⟨t0,i0,[],0⟩,⟨t1,i1,[],0⟩] scope pos) 0 it acc env = (standAt i0.pos >>= fun _ => pyNext it >>= fun r => match r with
      | none => pure (.done .next)
      | some v => letOwnedTupleGo t0 it v >>= fun _ => assign t0 env v >>= fun _ =>
        (eval i1 env >>= fun x => standAt i1.pos >>= fun _ => foldedSetIterable i1 env x >>= fun x => (holding [x] (pyIter x)) >>= fun it2 => runOwn (.compStart (.ListComp elt [⟨t0,i0,[],0⟩,⟨t1,i1,[],0⟩] scope pos) 1 it2 acc env) env >>= fun _ =>
          again (.compLoop (.ListComp elt [⟨t0,i0,[],0⟩,⟨t1,i1,[],0⟩] scope pos) 0 it acc env))) :=by rfl
theorem compTurn_two1 (elt t0 i0 t1 i1 :Expr) (scope :Scope) (pos :Pos) (it acc :Value) (env :Env) :
    compTurn (.ListComp elt [⟨t0,i0,[],0⟩,⟨t1,i1,[],0⟩] scope pos) 1 it acc env = (standAt i1.pos >>= fun _ => pyNext it >>= fun r => match r with
      | none => pure (.done .next)
      | some v => letOwnedTupleGo t1 it v >>= fun _ => assign t1 env v >>= fun _ =>
        (eval elt env >>= fun x => call (.builtin "list.append") [acc,x] >>= fun _ => pure ()) >>= fun _ =>
          again (.compLoop (.ListComp elt [⟨t0,i0,[],0⟩,⟨t1,i1,[],0⟩] scope pos) 1 it acc env)) :=by rfl
theorem loop_two0 {elt t0 i0 t1 i1 :Expr} {scope :Scope} {pos :Pos} {it acc :Value} {env :Env} (I :Nat → Shared → Prop)
    (turn :∀ n s (N :Value → Shared → Prop),I n s → wpAny (model prog w) A (pyNext it) (fun r s₁ => match r with
      | none => R (.ok .next) s₁
      | some v => wpAny (model prog w) A (letOwnedTupleGo t0 it v) (fun _ s₁' => wpAny (model prog w) A (assign t0 env v) (fun _ s₂ => wpAny (model prog w) A (eval i1 env) (fun x s₃ =>
          wpAny (model prog w) A (pyIter x) (fun it2 s₄ => codeAny (model prog w) A (.compStart (.ListComp elt [⟨t0,i0,[],0⟩,⟨t1,i1,[],0⟩] scope pos) 1 it2 acc env) (fun r s₅ => match r with | .ok _ => ∃ m,m < n ∧ I m s₅ | .error _ => False) s₄) N s₃) N s₂) N s₁') N s₁) N s)
    (n :Nat) (h :I n s) (hs :∀ x,foldedSetIterable i1 env x = pure x :=by intros _; rfl) (hh :A.mark none = A :=by rfl) :
    codeAny (model prog w) A (.compLoop (.ListComp elt [⟨t0,i0,[],0⟩,⟨t1,i1,[],0⟩] scope pos) 0 it acc env) R s :=by
  refine codeAny_loop rfl I (fun n s hI => ?_) n h
  show wpAny _ A ((compTurn (.ListComp elt [⟨t0,i0,[],0⟩,⟨t1,i1,[],0⟩] scope pos) 0 it acc env).onRaise (fun x => do noteFrame x env; theTreesLotGoes x)) _ _ s
  refine wpAny_noted ?_
  rw [compTurn_two0]
  refine wpAny_bind (wpAny_standAt (wpAny_bind (wpAny_mono (turn n s _ hI) (fun r s₁ h₁ => ?_) fun _ _ h' => h')))
  cases r with
  | none => exact wpAny_pure h₁
  | some v =>
    refine wpAny_bind (wpAny_mono h₁ (fun _ s₁' h₁' => ?_) fun _ _ h' => h')
    refine wpAny_bind (wpAny_mono h₁' (fun _ s₂ h₂ => ?_) fun _ _ h' => h')
    refine wpAny_bind (wpAny_mono h₂ (fun x s₃ h₃ => ?_) fun _ _ h' => h')
    refine wpAny_bind (wpAny_standAt (wpAny_bind (wpAny_of_eq (hs x) ?_)))
    refine wpAny_bind (wpAny_holding (wpAny_mono h₃ (fun it2 s₄ h₄ => ?_) fun _ _ h' => h'))
    refine wpAny_bind (wpAny_runOwn (h :=none) (codeAny_mono (hh.symm ▸ h₄) (fun r s₅ h₅ => ?_)))
    cases r with
    | ok f => exact wpAny_pure ⟨rfl,h₅⟩
    | error e => exact h₅.elim
theorem start_two1 {elt t0 i0 t1 i1 :Expr} {scope :Scope} {pos :Pos} {it acc :Value} {env :Env}
    (h0 :codeAny (model prog w) A (.compLoop (.ListComp elt [⟨t0,i0,[],0⟩,⟨t1,i1,[],0⟩] scope pos) 1 it acc env) R s)
    (h :∀ N,wpAny (model prog w) A (pyIter it) (fun it' s' => codeAny (model prog w) A (.compLoop (.ListComp elt [⟨t0,i0,[],0⟩,⟨t1,i1,[],0⟩] scope pos) 1 it' acc env) R s') N s) :
    codeAny (model prog w) A (.compStart (.ListComp elt [⟨t0,i0,[],0⟩,⟨t1,i1,[],0⟩] scope pos) 1 it acc env) R s :=by
  refine codeAny_of_tree ?_
  show wpAny _ _ ((compStart (.ListComp elt [⟨t0,i0,[],0⟩,⟨t1,i1,[],0⟩] scope pos) 1 it acc env).onRaise (fun x => do noteFrame x env; standAt theWindowsPlace)) _ _ s
  refine wpAny_notedAt ?_
  unfold compStart
  show wpAny _ _ (ask >>= _) _ _ s
  refine wpAny_bind (wpAny_askSetting (wpAny_ite ?_))
  split
  · first
      | exact wpAny_bind (wpAny_pure (wpAny_pure (And.intro rfl h0)))
      | exact wpAny_pure (And.intro rfl h0)
  · first
      | exact wpAny_bind (wpAny_rule (wpAny_bind (wpAny_standAt (wpAny_bind (wpAny_mono (h _) (fun it' s' h' => wpAny_pure (And.intro rfl h')) fun _ _ x => x)))))
      | (refine wpAny_bind (wpAny_rule ?_); show wpAny _ _ (standAt i1.pos >>= _) _ _ s; exact wpAny_bind (wpAny_standAt (wpAny_bind (wpAny_mono (h _) (fun it' s' h' => wpAny_pure (And.intro rfl h')) fun _ _ x => x))))
theorem loop_two1 {elt t0 i0 t1 i1 :Expr} {scope :Scope} {pos :Pos} {it acc :Value} {env :Env} (I :Nat → Shared → Prop)
    (turn :∀ n s (N :Value → Shared → Prop),I n s → wpAny (model prog w) A (pyNext it) (fun r s₁ => match r with
      | none => R (.ok .next) s₁
      | some v => wpAny (model prog w) A (assign t1 env v) (fun _ s₂ => wpAny (model prog w) A (eval elt env) (fun x s₃ =>
          wpAny (model prog w) A (call (.builtin "list.append") [acc,x]) (fun _ s₄ => ∃ m,m < n ∧ I m s₄) N s₃) N s₂) N s₁) N s)
    (n :Nat) (h :I n s) (ht :∀ v,letOwnedTupleGo t1 it v = pure () :=by intros _; rfl) :
    codeAny (model prog w) A (.compLoop (.ListComp elt [⟨t0,i0,[],0⟩,⟨t1,i1,[],0⟩] scope pos) 1 it acc env) R s :=by
  refine codeAny_loop rfl I (fun n s hI => ?_) n h
  show wpAny _ _ ((compTurn (.ListComp elt [⟨t0,i0,[],0⟩,⟨t1,i1,[],0⟩] scope pos) 1 it acc env).onRaise (fun x => do noteFrame x env; theTreesLotGoes x)) _ _ s
  refine wpAny_noted ?_
  rw [compTurn_two1]
  refine wpAny_bind (wpAny_standAt (wpAny_bind (wpAny_mono (turn n s _ hI) (fun r s₁ h₁ => ?_) fun _ _ h' => h')))
  cases r with
  | none => exact wpAny_pure h₁
  | some v =>
    refine wpAny_bind (wpAny_of_eq (ht v) ?_)
    exact wpAny_bind (wpAny_mono h₁ (fun _ s₂ h₂ => wpAny_bind (wpAny_bind (wpAny_mono h₂ (fun x s₃ h₃ => wpAny_bind (wpAny_mono h₃
      (fun _ s₄ h₄ => wpAny_pure (wpAny_pure ⟨rfl,h₄⟩)) fun _ _ h' => h')) fun _ _ h' => h'))) fun _ _ h' => h')
end
noncomputable abbrev two_block_Q (prog :Program) (w :World) (A :Around) (E :Value → Shared → Prop) (h₀ :Heap) (L :Addr) (m :Str → Option Value) (env :Env) (iter iter2 :Expr) (x x₂ x₃ :Str) (px px₂ px₃ px₄ tp :Pos) (tk :Nat) (scope :Scope) (cl :List (Str × Addr)) (pos :Pos) (s₂ :Shared) (I :Addr) (fp wr :List Addr) (n :Nat) (Pt :Nat → Array Value → Prop) (St :Nat → Heap → Prop) (Mid :Nat → Addr → Heap → Prop) (news :List (Addr × Obj)) (RR :Value → Addr → Result → Shared → Prop) (TT :Nat → List Value → Prop) :Prop :=∀ (W :WalksU prog w A I fp wr n Pt St Mid) (hsz :n ≤ sizeLine) (hPt :∀ i vals,Pt i vals → ∃ a b,vals = #[a,b]) (hcell :∀ y ∈ scope.names,y.2 ≠ .cell) (hkind :scope.kind = .function) (hx :scope.names.lookup x = some .local) (hx₂ :scope.names.lookup x₂ = some .local) (hxx :x ≠ x₂) (hh :A.handled = none) (hst :St 0 s₂.heap) (hfp :∀ b ∈ fp,b < s₂.heap.objs.size) (F :Fr h₀ L s₂.heap m) (N :News h₀ L s₂.heap news) (hLf :L ∉ fp) (hwr :∀ b ∈ wr,h₀.get? b = none) (off :∀ p ∈ news,p.1 ∉ wr) (hx₃ :scope.names.lookup x₃ = some .local) (hx₃d :(x₃ == ("__debug__" :Str)) = false) (hT16 :∀ i its,TT i its → its.length ≤ 16) (hn8 :n ≤ 8) (hs :∀ env' x,foldedSetIterable iter2 env' x = pure x) (hmk :A.mark none = A) (turn :∀ i v₁ v₂ C oC D ys m₂ h tk news' (E' :Value → Shared → Prop),i < n → Pt i #[v₁,v₂] → NsObj oC m₂ → m₂ x = some v₁ → m₂ x₂ = some v₂ → (∀ p ∈ news,p ∈ news') → Fr h₀ L h m → News h₀ L h ((C,oC) :: (D,lst ys) :: news') →
      wpAny (model prog w) A (eval iter2 (compEnvC scope cl C env)) (OutL h₀ L m { s₂ with heap :=h,toks :=tk } ((C,oC) :: (D,lst ys) :: news') (fun y => ∃ l its k,y = .ref l ∧ (l,listOf its.toArray k) ∈ news ∧ TT i its)) E' { s₂ with heap :=h,toks :=tk }) (hRR :∀ D C h tk m' (ls :List (List Value)),ls.length = n → (∀ i (hi :i < ls.length),TT i ls[i]) → Fr h₀ L h m → News h₀ L h ((D,lst ls.flatten) :: news) → (∀ p ∈ news,p.1 ≠ D) → h.Ns C m' → h₀.get? C = none → h₀.get? D = none → C ≠ L → D ≠ L → C ≠ D → (∀ p ∈ news,p.1 ≠ C) →
      RR (.ref D) C (.ok .next) { s₂ with heap :=h,toks :=tk }),wpAny (model prog w) A (newList []) (fun acc s₃ => wpAny (model prog w) A (newFunctionEnv scope env.globals cl [] env.qual none .none (some env)) (fun cenv s₄ =>
      codeAny (model prog w) A (.compStart (.ListComp (.Name x₃ px₄) [⟨.Tuple [.Name x px,.Name x₂ px₂] tk tp,iter,[],0⟩,⟨.Name x₃ px₃,iter2,[],0⟩] scope pos) 0 (.ref I) acc { cenv with scope :=relabel scope env }) (RR acc cenv.locals) s₄) E s₃) E s₂
theorem two_block_L :∀ prog w A E h₀ L m env iter iter2 x x₂ x₃ px px₂ px₃ px₄ tp tk scope cl pos s₂ I fp wr n Pt St Mid news RR TT,two_block_Q prog w A E h₀ L m env iter iter2 x x₂ x₃ px px₂ px₃ px₄ tp tk scope cl pos s₂ I fp wr n Pt St Mid news RR TT :=by
  intro prog w A E h₀ L m env iter iter2 x x₂ x₃ px px₂ px₃ px₄ tp tk scope cl pos s₂ I fp wr n Pt St Mid news RR TT
  delta two_block_Q
  intro W hsz hPt hcell hkind hx hx₂ hxx hh hst hfp F N hLf hwr off hx₃ hx₃d hT16 hn8 hs hmk turn hRR
  refine wpAny_newObj_type (wpAny_newFunctionEnv hcell (by intro y hy; simp at hy) ?_ hkind)
  intro h₁ hns₁ hsb₁
  dsimp only at hns₁ hsb₁ ⊢
  generalize hH2 :s₂.heap.push { cls :=.type "list",dict :=none,data :=.seq ([] :List Value).toArray } = H2 at hns₁ hsb₁ ⊢
  have hC :H2.objs.size = s₂.heap.objs.size + 1 :=by rw [← hH2,Heap.size_push]
  have hDC :s₂.heap.objs.size ≠ H2.objs.size :=by rw [hC]; exact Nat.ne_of_lt (Nat.lt_succ_self _)
  have below :∀ b,b < s₂.heap.objs.size → b ≠ H2.objs.size ∧ b ≠ s₂.heap.objs.size :=fun b hb => ⟨by rw [hC]; exact Nat.ne_of_lt (Nat.lt_succ_of_lt hb),Nat.ne_of_lt hb⟩
  have hDf :s₂.heap.objs.size ∉ fp :=fun hm => Nat.lt_irrefl _ (hfp _ hm)
  have hCf :H2.objs.size ∉ fp :=fun hm => by have :=hfp _ hm; rw [hC] at this; exact Nat.lt_irrefl _ (Nat.lt_of_succ_lt this)
  have hLw :L ∉ wr :=fun hm => hLf (W.sub _ hm)
  have old :∀ b o,s₂.heap.get? b = some o → h₁.get? b = some o :=fun b o e => hsb₁.extBut b o (below b (Heap.lt_size e)).1 (Heap.get?_push_of_some _ (hH2 ▸ Heap.get?_push_of_some _ e))
  have hacc :h₁.get? s₂.heap.objs.size = some (lst []) :=hsb₁.extBut _ _ hDC (Heap.get?_push_of_some _ (hH2 ▸ Heap.get?_push_size _ rfl))
  have hst₁ :St 0 h₁ :=W.frame _ _ _ hst fun b _ o e => old b o e
  have fresh :∀ a,s₂.heap.objs.size ≤ a → s₂.heap.get? a = none :=fun a ha => by
    cases e :s₂.heap.get? a with
    | none => rfl
    | some o' => exact absurd (Heap.lt_size e) (Nat.not_lt.mpr ha)
  have fresh₀ :∀ a,s₂.heap.objs.size ≤ a → h₀.get? a = none :=fun a ha => by
    cases e :h₀.get? a with
    | none => rfl
    | some o' => have :=F.keep a o' e; rw [fresh a ha] at this; cases this
  have hD₀ :h₀.get? s₂.heap.objs.size = none :=fresh₀ _ (Nat.le_refl _)
  have hC₀ :h₀.get? H2.objs.size = none :=fresh₀ _ (by rw [hC]; exact Nat.le_succ _)
  have hLlt :L < s₂.heap.objs.size :=F.ns.lt
  have hDL :s₂.heap.objs.size ≠ L :=Ne.symm (below L hLlt).2
  have hCL :H2.objs.size ≠ L :=Ne.symm (below L hLlt).1
  have newsC :∀ p ∈ news,p.1 ≠ H2.objs.size :=fun p hp => (below _ (Heap.lt_size (N p hp).1)).1
  have newsD :∀ p ∈ news,p.1 ≠ s₂.heap.objs.size :=fun p hp => (below _ (Heap.lt_size (N p hp).1)).2
  have wrC :H2.objs.size ∉ wr :=fun hm => hCf (W.sub _ hm)
  have wrD :s₂.heap.objs.size ∉ wr :=fun hm => hDf (W.sub _ hm)
  have old₀ :∀ b o,h₀.get? b = some o → b ∉ wr :=fun b o e hb => by rw [hwr b hb] at e; cases e
  have loop :∀ s₃ :Shared,s₃ = { s₂ with heap :=h₁,toks :=s₂.toks + ([] :List (Str × Value)).length } →
      codeAny (model prog w) A (.compLoop (.ListComp (.Name x₃ px₄) [⟨.Tuple [.Name x px,.Name x₂ px₂] tk tp,iter,[],0⟩,⟨.Name x₃ px₃,iter2,[],0⟩] scope pos) 0 (.ref I) (.ref s₂.heap.objs.size) (compEnvC scope cl H2.objs.size env))
        (RR (.ref s₂.heap.objs.size) H2.objs.size) s₃ :=by
    (intro s₃; intro rfl)
    refine loop_two0
      (fun k s' => ∃ h' tk i,∃ ls :List (List Value),∃ m',s' = { s₂ with heap :=h',toks :=tk } ∧ i ≤ n ∧ k = n + 1 - i ∧ ls.length = i ∧ (∀ j (hj :j < ls.length),TT j ls[j]) ∧ St i h' ∧ Fr h₀ L h' m ∧ h'.Ns H2.objs.size m' ∧ News h₀ L h' ((s₂.heap.objs.size,lst ls.flatten) :: news)) ?_ (n + 1)
      ⟨h₁,_,0,[],_,rfl,Nat.zero_le _,rfl,rfl,(fun j hj => nomatch hj),hst₁,F.keeps old,hns₁,fun p hp => ?_⟩ (hs _) hmk
    · (intro k s' NN; rintro ⟨h',tkA,i,ls,m',rfl,hi,rfl,hyl,hys,hst',F',hn',N'⟩)
      have offN :∀ p ∈ (s₂.heap.objs.size,lst ls.flatten) :: news,p.1 ∉ wr :=fun p hp => by
        rcases List.mem_cons.mp hp with rfl | hp
        · exact wrD
        · exact off p hp
      by_cases hlt :i < n
      · refine W.item i _ _ _ hlt hst' ?_
        intro T vals h₂ tk₂ hPv hT hMid hk₂
        obtain ⟨v₁,v₂,rfl⟩ :=hPt _ _ hPv
        have hTw :=W.apart _ _ _ hMid
        refine W.go _ _ _ i T _ _ _ hMid ?_
        intro h₃ hst₃ hk₃
        have kk :∀ b o,b ∉ wr → h'.get? b = some o → h₃.get? b = some o :=fun b o hb e => hk₃ b o hb (hk₂ b o hb e)
        have hT₃ :IsTup h₃ T #[v₁,v₂] :=by obtain ⟨o,e,r⟩ :=hT; exact ⟨o,hk₃ _ _ hTw e,r⟩
        refine assign_Tuple_tuple hh hT₃ rfl rfl ?_
        intro h₅ he
        have he' :∀ b o,h₃.get? b = some o → h₅.get? b = some o :=fun b o e => he b o (Nat.ne_of_lt (Heap.lt_size e)) e
        refine assignInOrder_cons (wpAny_assign_Name (wpAny_storeName_local (lookup_relabel_local hx) ((hn'.at' fun o e => kk _ o wrC e).at' fun o e => he' _ o e) ?_ (by simp [compEnvC,relabel,hkind])))
        intro h₆ hn₆ hs₆
        refine assignInOrder_cons (wpAny_assign_Name (wpAny_storeName_local (lookup_relabel_local hx₂) hn₆ ?_ (by simp [compEnvC,relabel,hkind])))
        intro h₇ hn₇ hs₇
        refine assignInOrder_nil ?_
        have old7 :∀ b o,b ≠ H2.objs.size → h₃.get? b = some o → h₇.get? b = some o :=fun b o hb e => hs₇.extBut b o hb (hs₆.extBut b o hb (he' b o e))
        have hst₇ :St (i + 1) h₇ :=W.frame _ _ _ hst₃ fun b hb o e => old7 b o (fun q => hCf (by rw [← q]; exact hb)) e
        obtain ⟨oC,heC,hoC⟩ :=ns_obj hn₇
        have F₃ :Fr h₀ L h₃ m :=⟨F'.ns.at' fun o e => kk _ o hLw e,fun b o e => kk b o (old₀ b o e) (F'.keep b o e),F'.above⟩
        have F₇ :Fr h₀ L h₇ m :=((F₃.keeps he').change hs₆ hCL hC₀).change hs₇ hCL hC₀
        have N₇ :News h₀ L h₇ ((H2.objs.size,oC) :: (s₂.heap.objs.size,lst ls.flatten) :: (news ++ PyProof.Rows.ownOf h₀ fp h₇)) :=fun p hp => by
          rcases List.mem_cons.mp hp with rfl | hp
          · exact ⟨heC,hCL,hC₀⟩
          · rcases List.mem_cons.mp hp with rfl | hp
            · have z :=N' _ List.mem_cons_self
              exact ⟨old7 _ _ hDC (kk _ _ wrD z.1),z.2⟩
            · rcases List.mem_append.mp hp with hp | hp
              · have z :=N' p (List.mem_cons_of_mem _ hp)
                exact ⟨old7 _ _ (newsC p hp) (kk _ _ (off p hp) z.1),z.2⟩
              · exact news_ownOf hLf p hp
        refine wpAny_mono (turn i v₁ v₂ H2.objs.size oC s₂.heap.objs.size ls.flatten _ h₇ _ (news ++ PyProof.Rows.ownOf h₀ fp h₇) _ hlt hPv hoC (by simp [hxx]) (by simp) (fun p hp => List.mem_append_left _ hp) F₇ N₇) ?_ fun _ _ e => e
        intro y s₈ h₈
        obtain ⟨⟨l,its,kn,rfl,hml,hTi⟩,h₈,tk₈,rfl,F₈,N₈⟩ :=h₈
        have zC :=(N₈ (H2.objs.size,oC) List.mem_cons_self).1
        have zD :=(N₈ (s₂.heap.objs.size,lst ls.flatten) (List.mem_cons_of_mem _ List.mem_cons_self)).1
        have hst₈ :St (i + 1) h₈ :=W.frame _ _ _ hst₇ fun b hb o e => by
          cases hn :h₀.get? b with
          | some o₀ =>
            have :o₀ = o :=by have :=F₇.keep b o₀ hn; rw [e] at this; exact (Option.some.inj this).symm
            exact this ▸ F₈.keep b o₀ hn
          | none => exact (N₈ _ (List.mem_cons_of_mem _ (List.mem_cons_of_mem _ (List.mem_append_right _ (mem_ownOf hb hn e))))).1
        have zl :=(N₈ (l,listOf its.toArray kn) (List.mem_cons_of_mem _ (List.mem_cons_of_mem _ (List.mem_append_left _ hml)))).1
        have hlist :h₈.IsList l its.toArray :=⟨_,zl,rfl,_,rfl⟩
        refine wpAny_pyIter_list hlist ?_
        have lI :l ≠ h₈.objs.size :=Nat.ne_of_lt (Heap.lt_size zl)
        have W2 :=Walks.list (prog :=prog) (w :=w) hh h₈.objs.size l lI its.toArray
        have kI :∀ b o,h₈.get? b = some o → (h₈.push { cls :=.type "list_iterator",data :=.fields #[.ref l,.int 0 0] }).get? b = some o :=fun b o e => Heap.get?_push_of_some _ e
        have CI :H2.objs.size ≠ h₈.objs.size :=Nat.ne_of_lt (Heap.lt_size zC)
        have DI :s₂.heap.objs.size ≠ h₈.objs.size :=Nat.ne_of_lt (Heap.lt_size zD)
        have I₀ :h₀.get? h₈.objs.size = none :=next_is_new F₈
        have LI :L ≠ h₈.objs.size :=Nat.ne_of_lt F₈.ns.lt
        have lenS :∀ k,k ≤ i → (ls.take k).flatten.length ≤ 16 * k :=by
          intro k
          induction k with
          | zero => intro _; simp
          | succ k ih =>
            intro hk
            have hk' :k < ls.length :=by omega
            rw [List.take_add_one,List.getElem?_eq_getElem hk',List.flatten_append,List.length_append]
            have :=ih (by omega)
            have :=hT16 _ _ (hys k hk')
            simp only [Option.toList_some,List.flatten_cons,List.flatten_nil,List.append_nil]
            omega
        have lenF :ls.flatten.length ≤ 128 :=by
          have :=lenS i (Nat.le_refl _)
          rw [List.take_of_length_le (by omega)] at this
          omega
        have lenT :=hT16 _ _ hTi
        have inner :∀ s₉ :Shared,s₉ = { s₂ with heap :=h₈.push { cls :=.type "list_iterator",data :=.fields #[.ref l,.int 0 0] },toks :=tk₈ } →
            codeAny (model prog w) A (.compLoop (.ListComp (.Name x₃ px₄) [⟨.Tuple [.Name x px,.Name x₂ px₂] tk tp,iter,[],0⟩,⟨.Name x₃ px₃,iter2,[],0⟩] scope pos) 1 (.ref h₈.objs.size) (.ref s₂.heap.objs.size) (compEnvC scope cl H2.objs.size env))
              (fun r s₅ => match r with | .ok _ => ∃ m_1,m_1 < n + 1 - i ∧ ∃ h' tk i,∃ ls :List (List Value),∃ m',s₅ = { s₂ with heap :=h',toks :=tk } ∧ i ≤ n ∧ m_1 = n + 1 - i ∧ ls.length = i ∧ (∀ j (hj :j < ls.length),TT j ls[j]) ∧ St i h' ∧ Fr h₀ L h' m ∧ h'.Ns H2.objs.size m' ∧ News h₀ L h' ((s₂.heap.objs.size,lst ls.flatten) :: news) | .error _ => False) s₉ :=by
          (intro s₉; intro rfl)
          refine loop_two1 (fun k s' => ∃ h' tk j m',s' = { s₂ with heap :=h',toks :=tk } ∧ j ≤ its.length ∧ k = its.length + 1 - j ∧ h'.IsListIter h₈.objs.size l j ∧ h'.Ns H2.objs.size m' ∧
              (∀ b o,b ≠ H2.objs.size → b ≠ s₂.heap.objs.size → b ≠ h₈.objs.size → h₈.get? b = some o → h'.get? b = some o) ∧ h'.get? s₂.heap.objs.size = some (lst (ls.flatten ++ its.take j))) ?_ (its.length + 1)
            ⟨_,_,0,_,rfl,Nat.zero_le _,rfl,⟨_,Heap.get?_push_size _ rfl,rfl,rfl⟩,hoC.ns (kI _ _ zC),fun b o _ _ _ e => kI b o e,by rw [List.take_zero,List.append_nil]; exact kI _ _ zD⟩ (by intro _; rfl)
          (intro k s' NN2; rintro ⟨h',tk',j,m₃,rfl,hj,rfl,hit,hns,hfz,hD⟩)
          have hls' :h'.IsList l its.toArray :=by
            by_cases e1 :l = H2.objs.size
            · exact absurd e1 (newsC _ hml)
            · by_cases e2 :l = s₂.heap.objs.size
              · exact absurd e2 (newsD _ hml)
              · exact ⟨_,hfz l _ e1 e2 lI zl,rfl,_,rfl⟩
          by_cases hlt2 :j < its.length
          · refine W2.item j _ _ _ (by simpa using hlt2) ⟨hit,hls'⟩ ?_
            intro v h₂ tk₂ hPv₂ hSt₂ hk₂
            have hv :its[j]? = some v :=by simpa using hPv₂
            have hns₂ :h₂.Ns H2.objs.size m₃ :=hns.at' fun o e => hk₂ _ o (fun q => CI (List.mem_singleton.mp q)) e
            refine wpAny_assign_Name (wpAny_storeName_local (lookup_relabel_local hx₃) hns₂ ?_ (by simp [compEnvC,relabel,hkind]))
            intro h₃ hns₃ hsb₃
            refine ldVarK hns₃ (by simp; rfl) ?_ (by simp [compEnvC,relabel,hkind]) (lookup_relabel_local hx₃) hx₃d
            have hD₃ :h₃.get? s₂.heap.objs.size = some (lst (ls.flatten ++ its.take j)) :=hsb₃.extBut _ _ hDC (hk₂ _ _ (fun q => DI (List.mem_singleton.mp q)) hD)
            refine append_at (hsz :=by
              show (ls.flatten ++ its.take j).toArray.size ≤ sizeLine
              rw [List.size_toArray,List.length_append,List.length_take,PySem.sizeLine_eq]; omega) hD₃ fun h₄ hs₄ hD₄ => ?_
            refine ⟨its.length + 1 - (j + 1),by omega,h₄,_,j + 1,_,rfl,hlt2,rfl,?_,hns₃.sameBut hs₄ (Ne.symm hDC),fun b o n1 n2 n3 e => ?_,?_⟩
            · exact hSt₂.1.at fun o e => hs₄.extBut _ o (Ne.symm DI) (hsb₃.extBut _ o (Ne.symm CI) e)
            · exact hs₄.extBut b o n2 (hsb₃.extBut b o n1 (hk₂ b o (fun q => n3 (List.mem_singleton.mp q)) (hfz b o n1 n2 n3 e)))
            · rw [hD₄]
              refine (congrArg some (lst_snoc (ls.flatten ++ its.take j) v)).trans ?_
              rw [List.append_assoc,List.take_add_one,hv]
              rfl
          · obtain rfl :j = its.length :=Nat.le_antisymm hj (Nat.not_lt.mp hlt2)
            refine W2.done _ _ _ ⟨by simpa using hit,hls'⟩ ?_
            intro h₂ tk₂ hk₂
            have k₂ :∀ b o,b ≠ H2.objs.size → b ≠ s₂.heap.objs.size → b ≠ h₈.objs.size → h₈.get? b = some o → h₂.get? b = some o :=fun b o n1 n2 n3 e => hk₂ b o (fun q => n3 (List.mem_singleton.mp q)) (hfz b o n1 n2 n3 e)
            have nL :∀ b o,h₀.get? b = some o → b ≠ H2.objs.size ∧ b ≠ s₂.heap.objs.size ∧ b ≠ h₈.objs.size :=fun b o e => ⟨fun q => (by rw [q,hC₀] at e; cases e),fun q => (by rw [q,hD₀] at e; cases e),fun q => (by rw [q,I₀] at e; cases e)⟩
            refine ⟨n + 1 - (i + 1),by omega,h₂,tk₂,i + 1,ls ++ [its],m₃,rfl,hlt,rfl,by rw [List.length_append,List.length_singleton,hyl],fun j hj => ?_,W.frame _ _ _ hst₈ fun b hb o e => k₂ b o (fun q => hCf (q ▸ hb)) (fun q => hDf (q ▸ hb)) (Nat.ne_of_lt (Heap.lt_size e)) e,
              ⟨F₈.ns.at' fun o e => k₂ L o (Ne.symm hCL) (Ne.symm hDL) LI e,fun b o e => k₂ b o (nL b o e).1 (nL b o e).2.1 (nL b o e).2.2 (F₈.keep b o e),F₈.above⟩,hns.at' fun o e => hk₂ _ o (fun q => CI (List.mem_singleton.mp q)) e,fun p hp => ?_⟩
            · rcases Nat.lt_or_ge j ls.length with h1 | h1
              · rw [List.getElem_append_left h1]; exact hys j h1
              · have :j = i :=by rw [List.length_append,List.length_singleton] at hj; omega
                subst this
                rw [List.getElem_append_right h1]
                simpa [hyl] using hTi
            · rcases List.mem_cons.mp hp with rfl | hp
              · refine ⟨?_,hDL,hD₀⟩
                have :=hk₂ _ _ (fun q => DI (List.mem_singleton.mp q)) hD
                rw [List.take_length] at this
                rw [List.flatten_append,List.flatten_cons,List.flatten_nil,List.append_nil]
                exact this
              · have z :=N₈ p (List.mem_cons_of_mem _ (List.mem_cons_of_mem _ (List.mem_append_left _ hp)))
                exact ⟨k₂ _ _ (newsC p hp) (newsD p hp) (Nat.ne_of_lt (Heap.lt_size z.1)) z.1,z.2⟩
        exact start_two1 (inner _ rfl) fun _ => W2.self 0 _ _ _ ⟨⟨_,Heap.get?_push_size _ rfl,rfl,rfl⟩,hlist.at fun o e => kI _ o e⟩ (inner _ rfl)
      · obtain rfl :i = n :=Nat.le_antisymm hi (Nat.not_lt.mp hlt)
        refine W.done _ _ _ hst' ?_
        intro h₂ tk₂ hk₂
        exact hRR _ _ h₂ tk₂ _ ls hyl hys ⟨F'.ns.at' fun o e => hk₂ _ o hLw e,fun b o e => hk₂ b o (old₀ b o e) (F'.keep b o e),F'.above⟩ (fun p hp => ⟨hk₂ _ _ (offN p hp) (N' p hp).1,(N' p hp).2⟩)
          newsD (hn'.at' fun o e => hk₂ _ o wrC e) hC₀ hD₀ hCL hDL (Ne.symm hDC) newsC
    · rcases List.mem_cons.mp hp with rfl | hp
      · exact ⟨hacc,hDL,hD₀⟩
      · exact ⟨old _ _ (N p hp).1,(N p hp).2⟩
  exact codeAny_compStart_list (loop _ rfl) (W.self 0 _ _ _ hst₁ (loop _ rfl))
theorem two_block {prog :Program} {w :World} {A :Around} {E :Value → Shared → Prop} {h₀ :Heap} {L :Addr} {m :Str → Option Value} {env :Env} {iter iter2 :Expr} {x x₂ x₃ :Str} {px px₂ px₃ px₄ tp :Pos} {tk :Nat} {scope :Scope} {cl :List (Str × Addr)} {pos :Pos} {s₂ :Shared}
    {I :Addr} {fp wr :List Addr} {n :Nat} {Pt :Nat → Array Value → Prop} {St :Nat → Heap → Prop} {Mid :Nat → Addr → Heap → Prop} {news :List (Addr × Obj)} {RR :Value → Addr → Result → Shared → Prop}
    (W :WalksU prog w A I fp wr n Pt St Mid) (hsz :n ≤ sizeLine) (hPt :∀ i vals,Pt i vals → ∃ a b,vals = #[a,b])
    (hcell :∀ y ∈ scope.names,y.2 ≠ .cell) (hkind :scope.kind = .function) (hx :scope.names.lookup x = some .local) (hx₂ :scope.names.lookup x₂ = some .local) (hxx :x ≠ x₂) (hh :A.handled = none)
    (hst :St 0 s₂.heap) (hfp :∀ b ∈ fp,b < s₂.heap.objs.size) (F :Fr h₀ L s₂.heap m) (N :News h₀ L s₂.heap news) (hLf :L ∉ fp) (hwr :∀ b ∈ wr,h₀.get? b = none) (off :∀ p ∈ news,p.1 ∉ wr)
    (hx₃ :scope.names.lookup x₃ = some .local) (hx₃d :(x₃ == ("__debug__" :Str)) = false) (TT :Nat → List Value → Prop) (hT16 :∀ i its,TT i its → its.length ≤ 16) (hn8 :n ≤ 8) (hs :∀ env' x,foldedSetIterable iter2 env' x = pure x) (hmk :A.mark none = A)
    (turn :∀ i v₁ v₂ C oC D ys m₂ h tk news' (E' :Value → Shared → Prop),i < n → Pt i #[v₁,v₂] → NsObj oC m₂ → m₂ x = some v₁ → m₂ x₂ = some v₂ → (∀ p ∈ news,p ∈ news') → Fr h₀ L h m → News h₀ L h ((C,oC) :: (D,lst ys) :: news') →
      wpAny (model prog w) A (eval iter2 (compEnvC scope cl C env)) (OutL h₀ L m { s₂ with heap :=h,toks :=tk } ((C,oC) :: (D,lst ys) :: news') (fun y => ∃ l its k,y = .ref l ∧ (l,listOf its.toArray k) ∈ news ∧ TT i its)) E' { s₂ with heap :=h,toks :=tk })
    (hRR :∀ D C h tk m' (ls :List (List Value)),ls.length = n → (∀ i (hi :i < ls.length),TT i ls[i]) → Fr h₀ L h m → News h₀ L h ((D,lst ls.flatten) :: news) → (∀ p ∈ news,p.1 ≠ D) → h.Ns C m' → h₀.get? C = none → h₀.get? D = none → C ≠ L → D ≠ L → C ≠ D → (∀ p ∈ news,p.1 ≠ C) →
      RR (.ref D) C (.ok .next) { s₂ with heap :=h,toks :=tk }) :
    wpAny (model prog w) A (newList []) (fun acc s₃ => wpAny (model prog w) A (newFunctionEnv scope env.globals cl [] env.qual none .none (some env)) (fun cenv s₄ =>
      codeAny (model prog w) A (.compStart (.ListComp (.Name x₃ px₄) [⟨.Tuple [.Name x px,.Name x₂ px₂] tk tp,iter,[],0⟩,⟨.Name x₃ px₃,iter2,[],0⟩] scope pos) 0 (.ref I) acc { cenv with scope :=relabel scope env }) (RR acc cenv.locals) s₄) E s₃) E s₂ :=two_block_L prog w A E h₀ L m env iter iter2 x x₂ x₃ px px₂ px₃ px₄ tp tk scope cl pos s₂ I fp wr n Pt St Mid news RR TT W hsz hPt hcell hkind hx hx₂ hxx hh hst hfp F N hLf hwr off hx₃ hx₃d hT16 hn8 hs hmk turn hRR
end
end
section
open PySem PySem.W PySem.Calls PySem.Spec PyProof.Rows
section
open PyProof.Rows.LCg
noncomputable def TSrc (prog :Program) (w :World) (A :Around) (h₀ :Heap) (L :Addr) (m :Str → Option Value) (env :Env) (iter2 :Expr) (x x₂ :Str) (scope :Scope) (cl :List (Str × Addr)) (Q :Value → Shared → Prop) (xv :Value) (s₁ :Shared) :Prop :=
  ∃ (l n :Nat) (ps :List PR) (news :List (Addr × Obj)),xv = .ref l ∧ Fr h₀ L s₁.heap m ∧ News h₀ L s₁.heap news ∧ (l,listOf (refs ps).toArray n) ∈ news ∧ (∀ p ∈ ps,(p.T,tupOf [.int (p.num :Nat) p.tn,.ref p.x.e]) ∈ news) ∧ ps.length ≤ 8 ∧
    (∀ p ∈ ps,(p.x.ml,listOf p.ms.toArray p.x.mn) ∈ news ∧ p.ms.length ≤ 16) ∧
    (∀ p C oC D ys m₂ (s' :Shared) news' (E' :Value → Shared → Prop),p ∈ ps → NsObj oC m₂ → m₂ x = some (.int (p.num :Nat) p.tn) → m₂ x₂ = some (.ref p.x.e) → (∀ q ∈ news,q ∈ news') → Fr h₀ L s'.heap m → News h₀ L s'.heap ((C,oC) :: (D,lst ys) :: news') →
      wpAny (model prog w) A (eval iter2 (compEnvC scope cl C env)) (OutL h₀ L m s' ((C,oC) :: (D,lst ys) :: news') (fun y => y = .ref p.x.ml)) E' s') ∧
    ∀ D h tk,Fr h₀ L h m → News h₀ L h ((D,lst (ps.flatMap PR.ms)) :: news) → (∀ p ∈ news,p.1 ≠ D) → Q (.ref D) { s₁ with heap :=h,toks :=tk }
noncomputable abbrev ListComp_two_Q (prog :Program) (w :World) (A :Around) (E :Value → Shared → Prop) (s :Shared) (h₀ :Heap) (L :Addr) (m :Str → Option Value) (env :Env) (iter iter2 :Expr) (x x₂ x₃ :Str) (px px₂ px₃ px₄ tp :Pos) (tk :Nat) (scope :Scope) (cl :List (Str × Addr)) (pos :Pos) (Q :Value → Shared → Prop) :Prop :=∀ (F₀ :Fr h₀ L s.heap m) (hh :A.handled = none) (hclos :closureFor scope env = pure cl) (hcell :∀ y ∈ scope.names,y.2 ≠ .cell) (hkind :scope.kind = .function) (hnames :∀ y ∈ scope.names,y.2 = .local → scope.names.lookup y.1 = some .local) (hx :scope.names.lookup x = some .local) (hx₂ :scope.names.lookup x₂ = some .local) (hx₃ :scope.names.lookup x₃ = some .local) (hx₃d :(x₃ == ("__debug__" :Str)) = false) (hxx :x ≠ x₂) (hmk :A.mark none = A) (h :wpAny (model prog w) A (eval iter env) (TSrc prog w A h₀ L m env iter2 x x₂ scope cl Q) E s) (hs :∀ x,foldedSetIterable iter env x = pure x :=by intros _; rfl) (hs2 :∀ env' x,foldedSetIterable iter2 env' x = pure x :=by intros _ _; rfl),wpAny (model prog w) A (eval (.ListComp (.Name x₃ px₄) [⟨.Tuple [.Name x px,.Name x₂ px₂] tk tp,iter,[],0⟩,⟨.Name x₃ px₃,iter2,[],0⟩] scope pos) env) Q E s
theorem ListComp_two_L :∀ prog w A E s h₀ L m env iter iter2 x x₂ x₃ px px₂ px₃ px₄ tp tk scope cl pos Q,ListComp_two_Q prog w A E s h₀ L m env iter iter2 x x₂ x₃ px px₂ px₃ px₄ tp tk scope cl pos Q :=by
  refine ei8 (h :=?_)
  generalize (ep8 _).1 = prog
  generalize (ep8 _).2.1 = w
  generalize (ep8 _).2.2.1 = A
  generalize (ep8 _).2.2.2.1 = E
  generalize (ep8 _).2.2.2.2.1 = s
  generalize (ep8 _).2.2.2.2.2.1 = h₀
  generalize (ep8 _).2.2.2.2.2.2.1 = L
  generalize (ep8 _).2.2.2.2.2.2.2 = m
  refine ei8 (h :=?_)
  generalize (ep8 _).1 = env
  generalize (ep8 _).2.1 = iter
  generalize (ep8 _).2.2.1 = iter2
  generalize (ep8 _).2.2.2.1 = x
  generalize (ep8 _).2.2.2.2.1 = x₂
  generalize (ep8 _).2.2.2.2.2.1 = x₃
  generalize (ep8 _).2.2.2.2.2.2.1 = px
  generalize (ep8 _).2.2.2.2.2.2.2 = px₂
  refine ei8 (h :=?_)
  generalize (ep8 _).1 = px₃
  generalize (ep8 _).2.1 = px₄
  generalize (ep8 _).2.2.1 = tp
  generalize (ep8 _).2.2.2.1 = tk
  generalize (ep8 _).2.2.2.2.1 = scope
  generalize (ep8 _).2.2.2.2.2.1 = cl
  generalize (ep8 _).2.2.2.2.2.2.1 = pos
  generalize (ep8 _).2.2.2.2.2.2.2 = Q
  delta ListComp_two_Q
  intros F₀ hh hclos hcell hkind hnames hx hx₂ hx₃ hx₃d hxx hmk h hs hs2
  rw [eval_ListComp]
  refine wpAny_comprehension_free (use :=none) rfl hs hclos hkind hnames (wpAny_mono h (fun xv s₁ h₁ => ?_) fun _ _ e => e)
  obtain ⟨l,n,ps,news,rfl,F,N,hm,hps,hsz,hml,turn,fin⟩ :_ :=h₁
  have hl :s₁.heap.IsList l (refs ps).toArray :=⟨_,(N _ hm).1,rfl,_,rfl⟩
  have hlt :l < s₁.heap.objs.size :=Heap.lt_size (N _ hm).1
  have hne :l ≠ s₁.heap.objs.size :=Nat.ne_of_lt hlt
  refine wpAny_pyIter_list hl ?_
  have fresh₀ :h₀.get? s₁.heap.objs.size = none :=next_is_new F
  let Ts :Nat → Addr :=fun j => (ps[j]?.map PR.T).getD 0
  let vals :Nat → Array Value :=fun j => (ps[j]?.map fun p => #[.int (p.num :Nat) p.tn,.ref p.x.e]).getD #[]
  have hsize :(refs ps).toArray.size = ps.length :=by simp [refs]
  have eT :∀ j (h :j < ps.length),Ts j = ps[j].T :=fun j h => by simp [Ts,List.getElem?_eq_getElem h]
  have eV :∀ j (h :j < ps.length),vals j = #[.int (ps[j].num :Nat) ps[j].tn,.ref ps[j].x.e] :=fun j h => by simp [vals,List.getElem?_eq_getElem h]
  have hT :∀ j (h :j < ps.length),s₁.heap.IsTuple (Ts j) (vals j) :=fun j h => by
    rw [eT j h,eV j h]
    exact ⟨_,(N _ (hps _ (List.getElem_mem h))).1,rfl,_,rfl⟩
  have hTlt :∀ j,j < ps.length → Ts j < s₁.heap.objs.size :=fun j h => by obtain ⟨_,e,_⟩ :_ :=hT j h; exact Heap.lt_size e
  have W :=WalksU.listOfTuples (prog :=prog) (w :=w) hh s₁.heap.objs.size l hne (refs ps).toArray Ts vals
    (fun j hj => by rw [hsize] at hj; rw [eT j hj]; simp [refs,List.getElem?_eq_getElem hj]) (fun j hj => by rw [hsize] at hj; exact Nat.ne_of_lt (hTlt j hj))
  have up :∀ b o,s₁.heap.get? b = some o → (s₁.heap.push { cls :=.type "list_iterator",data :=.fields #[.ref l,.int 0 0] }).get? b = some o :=fun b o e => Heap.get?_push_of_some _ e
  refine two_block W.bound (by rw [hsize,PySem.sizeLine_eq]; omega) ?_ hcell hkind hx hx₂ hxx hh ?_ ?_ (F.push _) (fun p hp => ⟨up _ _ (N p hp).1,(N p hp).2⟩) ?_ ?_ ?_ hx₃ hx₃d (fun i its => ∃ h :i < ps.length,its = ps[i].ms) ?_ (by rw [hsize]; exact hsz) hs2 hmk ?_ ?_
  · rintro i v ⟨hi,rfl⟩
    rw [hsize] at hi
    rw [eV i hi]
    exact ⟨_,_,rfl⟩
  · exact ⟨⟨_,Heap.get?_push_size _ rfl,rfl,rfl⟩,hl.at fun o e => up _ o e,fun k hk => by rw [hsize] at hk; exact (hT k hk).at fun o e => up _ o e⟩
  · intros b hb
    show b < (s₁.heap.push _).objs.size
    rw [Heap.size_push]
    rcases List.mem_cons.mp hb with rfl | hb
    · exact Nat.lt_succ_self _
    · rcases List.mem_cons.mp hb with rfl | hb
      · exact Nat.lt_succ_of_lt hlt
      · obtain ⟨j,hj,rfl⟩ :_ :=List.mem_map.mp hb
        rw [List.mem_range,hsize] at hj
        exact Nat.lt_succ_of_lt (hTlt j hj)
  · intros hb
    rcases List.mem_cons.mp hb with e | hb
    · exact absurd F.ns.lt (e ▸ Nat.lt_irrefl _)
    · rcases List.mem_cons.mp hb with e | hb
      · exact (N _ hm).2.1 e.symm
      · obtain ⟨j,hj,e⟩ :_ :=List.mem_map.mp hb
        rw [List.mem_range,hsize] at hj
        have :=(N _ (hps _ (List.getElem_mem hj))).2.1
        exact this ((eT j hj).symm.trans e)
  · intros b hb
    rw [List.mem_singleton.mp hb]
    exact fresh₀
  · intros p hp hI
    exact absurd (Heap.lt_size (N p hp).1) ((List.mem_singleton.mp hI) ▸ Nat.lt_irrefl _)
  · rintro i its ⟨hi,rfl⟩
    exact (hml _ (List.getElem_mem hi)).2
  · rintro i v₁ v₂ C oC D ys m₂ h tk news' E' hi ⟨_,hv⟩ hC h1 h2 hs F'' N''
    rw [hsize] at hi
    rw [eV i hi] at hv
    have hv' :v₁ = .int (ps[i].num :Nat) ps[i].tn ∧ v₂ = .ref ps[i].x.e :=by simpa using hv
    obtain ⟨rfl,rfl⟩ :_ :=hv'
    refine wpAny_mono (turn ps[i] C oC D ys m₂ { s₁ with heap :=h,toks :=tk } news' E' (List.getElem_mem hi) hC h1 h2 hs F'' N'') (fun y s'' hy => ?_) fun _ _ e => e
    obtain ⟨rfl,h₃,tk₃,rfl,F₃,N₃⟩ :_ :=hy
    exact outL F₃ N₃ ⟨_,_,_,rfl,(hml _ (List.getElem_mem hi)).1,hi,rfl⟩
  · intros D C h tk m' ls hlen hys F'' N'' o1 hn hC₀ hD₀ hCL hDL hCD offC
    rw [hsize] at hlen
    have hls :ls = ps.map PR.ms :=by
      refine List.ext_getElem (by rw [hlen,List.length_map]) fun i h1 h2 => ?_
      obtain ⟨_,e⟩ :_ :=hys i h1
      rw [e,List.getElem_map]
    subst hls
    refine ⟨m',hn,fun h'' hs'' => fin D h'' tk (F''.change hs'' hCL hC₀) (fun p hp => ?_) o1⟩
    rw [List.flatMap_def] at hp
    refine ⟨hs''.extBut _ _ ?_ (N'' p hp).1,(N'' p hp).2⟩
    rcases List.mem_cons.mp hp with rfl | hp
    · exact Ne.symm hCD
    · exact offC p hp
theorem ListComp_two {prog :Program} {w :World} {A :Around} {E :Value → Shared → Prop} {s :Shared} {h₀ :Heap} {L :Addr} {m :Str → Option Value} {env :Env} {iter iter2 :Expr} {x x₂ x₃ :Str} {px px₂ px₃ px₄ tp :Pos} {tk :Nat} {scope :Scope} {cl :List (Str × Addr)} {pos :Pos} {Q :Value → Shared → Prop}
    (F₀ :Fr h₀ L s.heap m) (hh :A.handled = none)
    (hclos :closureFor scope env = pure cl) (hcell :∀ y ∈ scope.names,y.2 ≠ .cell) (hkind :scope.kind = .function)
    (hnames :∀ y ∈ scope.names,y.2 = .local → scope.names.lookup y.1 = some .local) (hx :scope.names.lookup x = some .local) (hx₂ :scope.names.lookup x₂ = some .local) (hx₃ :scope.names.lookup x₃ = some .local) (hx₃d :(x₃ == ("__debug__" :Str)) = false) (hxx :x ≠ x₂) (hmk :A.mark none = A)
    (h :wpAny (model prog w) A (eval iter env) (TSrc prog w A h₀ L m env iter2 x x₂ scope cl Q) E s)
    (hs :∀ x,foldedSetIterable iter env x = pure x :=by intros _; rfl) (hs2 :∀ env' x,foldedSetIterable iter2 env' x = pure x :=by intros _ _; rfl) :
    wpAny (model prog w) A (eval (.ListComp (.Name x₃ px₄) [⟨.Tuple [.Name x px,.Name x₂ px₂] tk tp,iter,[],0⟩,⟨.Name x₃ px₃,iter2,[],0⟩] scope pos) env) Q E s :=ListComp_two_L prog w A E s h₀ L m env iter iter2 x x₂ x₃ px px₂ px₃ px₄ tp tk scope cl pos Q F₀ hh hclos hcell hkind hnames hx hx₂ hx₃ hx₃d hxx hmk h hs hs2
end
end
section
section
theorem kw69 :True :=by
  (k_with "msetItem ref int" => (k_extra "r8"))
  (k_with "mRangeRest" => (refine Wait.h ?_))
  (k_with "mexec For Tuple Call" => (k_extra "r6"))
  trivial
theorem kw70 :True :=by
  (k_with "mexec Assign cons ListComp" => (k_extra "r5"))
  (k_with "meval ListComp" => (k_extra "r2"))
  (k_with "mcall ref" => (((with_reducible show wpAny _ _ (call (.ref 113) _) _ _ _); first | k_extra "q7" | k_dflt (k_extra "q7"))))
  (k_with "mcall ref" => (((with_reducible show wpAny _ _ (call (.ref 292) _) _ _ _); first | k_extra "q22" | k_dflt (k_extra "q22"))))
  (k_with "mcall ref" => (((with_reducible show wpAny _ _ (call (.ref 240) _) _ _ _); first | k_extra "q23" | k_dflt (k_extra "q23"))))
  (k_with "mcall ref" => (((with_reducible show wpAny _ _ (call (.ref 259) _) _ _ _); first | k_extra "q13" | k_dflt (k_extra "q13"))))
  (k_with "mexec For Tuple Name cons nil" => (k_extra "r7"))
  (k_with "mcall builtin:len" => ((refine len_refs (by k_asm) (by k_mem) (Prs.len (by assumption)) ?_)))
  trivial
noncomputable def nameOne (p :Int × Int) :Int :=Builtin.bitOr (Builtin.bitAnd p.1 128) (Builtin.bitAnd p.2 127)
noncomputable def nameRaw (os rs :List Int) :List Int :=(rs.zip os).map nameOne
section
variable (w dp un fr gd s mg mb G news a vs D)
noncomputable abbrev rename_ok_Q (l n l2 n2 :Nat) (ws us :List Value) (ps os :List Int) (u :Int) (t :Tok) :Prop :=∀ (gh :GH w mg mb G) (st :Stay G s.heap) (hn :HN G s.heap news) (lv :Lv dp un 7) (dm :DM w.params a vs D news) (q1 :(l,listOf ws.toArray n) ∈ news) (qI :IntsAre ws ps) (ql :ps.length = 11) (r1 :(l2,listOf us.toArray n2) ∈ news) (rI :IntsAre us os) (rl :os.length = 11) (hu :u ≠ 229) (hf :∀ r ∈ rowsF (findF D u ps),r.2.raw.getD 8 0 < 128),wpAny (model rw_tg0048_01.row.prog w) (AR dp un fr gd) (call (.ref 304) [.ref a.d,.int u t,.ref l,.ref l2]) (MutG s news a.l (LaysI a.n (rowsF (findF D u ps)).length (editAll (nameRaw os) D (rowsF (findF D u ps))))) (fun _ _ => False) s
end
theorem rename_ok_L :∀ w dp un fr gd s mg mb G news a vs D l n l2 n2 ws us ps os u t,rename_ok_Q w dp un fr gd s mg mb G news a vs D l n l2 n2 ws us ps os u t :=by
  intro w dp un fr gd s mg mb G news a vs D l n l2 n2 ws us ps os u t
  delta rename_ok_Q
  intro gh st hn lv dm q1 qI ql r1 rI rl hu hf
  have dm0 :=dm
  obtain ⟨m1,m2,m3,m4,hI,hl⟩ :=dm
  cell_enter
  k_steps
  rename Fr _ _ _ _ => F1
  rename News _ _ _ _ => N1
  rename Prs _ _ _ => hP
  with_reducible rename Apart _ _ => hsep
  rename List PR => qs
  have lq :=hP.len
  have e9 :=hI.length
  have e8 :=rI.length
  generalize hled :(_ :: (flat w.params _ ++ news) :List (Addr × Obj)) = led at N1
  have up :∀ q ∈ news,q ∈ led :=fun q hq => by rw [← hled]; exact List.mem_cons_of_mem _ (List.mem_append_right _ hq)
  have upf :∀ p ∈ qs,∀ q ∈ one w.params p,q ∈ led :=fun p hp q hq => by rw [← hled]; exact List.mem_cons_of_mem _ (List.mem_append_left _ (flat_mem hp hq))
  have in0 :=head_in hled
  have nla :l2 ≠ a.l :=News.ne N1 (up _ r1) (up _ m4) (list_ne (by omega))
  refine list_turns (items :=refs qs) (news :=led) (But2 _ (Str.ofString "number") (Str.ofString "entry")) (fun I i nw => EJ w.params a news qs _ (editAll (nameRaw os) D ((qs.take i).map PR.row)) I i nw) (by rfl) (by exact F1) (by exact N1) (fun _ h => h) in0 (fun I i nw h => h.f0) ?_ but2_start (fun I h => ⟨⟨vs,up _ m4,hI⟩,up _ m1,up _ m2,up _ m3,in0,fun q hq _ => up q hq,fun j p _ hj => upf p (List.mem_of_getElem? hj),h⟩) ?_
  · (intro I i v m₁ nw h tk it lt hv; rintro ⟨v1,v2,rfl⟩; intro J F' N')
    clear F1 N1
    rw [List.getElem?_map] at hv
    obtain ⟨p,hq,hv'⟩ :=Option.map_eq_some_iff.mp hv
    · have hv' :Value.ref p.T = v :=hv'
      subst hv'
      have hp :p ∈ qs :=List.mem_of_getElem? hq
      have okp :=hP.ok p hp
      have nm :=okp.nm
      rcases J with ⟨hj9,j2,j3,j4,j5,j6,j7,j8⟩
      obtain ⟨vs',j1,hI'⟩ :=hj9
      have g1 :=j7 i p (Nat.le_refl _) hq
      have hed :(p.x.ed,dictOf (entD w.params p.x p.e.user p.e.ext p.e.sp p.e.ct) 6) ∈ nw :=g1 _ (by simp)
      have N2 :=News.first N' (List.mem_cons_of_mem _ hed)
      have nl :(l2,listOf us.toArray n2) ∈ nw :=j6 _ r1 nla
      have f1 :=in_drop N' (List.mem_cons_of_mem _ (g1 (p.T,tupOf [.int (p.num :Nat) p.tn,.ref p.x.e]) (by simp))) (List.mem_cons_of_mem _ hed) dict_tup
      have f2 :=in_drop N' (List.mem_cons_of_mem _ (g1 (p.x.e,instObj 74 p.x.ed) (by simp))) (List.mem_cons_of_mem _ hed) dict_inst
      have f3 :=in_drop N' (List.mem_cons_of_mem _ (g1 (p.x.rl,listOf p.ws.toArray p.x.rn) (by simp))) (List.mem_cons_of_mem _ hed) list_dict
      have f4 :=in_drop N' (List.mem_cons_of_mem _ (g1 (p.x.ml,listOf p.ms.toArray p.x.mn) (by simp))) (List.mem_cons_of_mem _ hed) list_dict
      have b1 :=in_drop N' (List.mem_cons_of_mem _ j2) (List.mem_cons_of_mem _ hed) dict_inst
      have b2 :=in_drop N' (List.mem_cons_of_mem _ j3) (List.mem_cons_of_mem _ hed) (dict_ne (by decide))
      have b3 :=in_drop N' (List.mem_cons_of_mem _ j4) (List.mem_cons_of_mem _ hed) list_dict
      have b4 :=in_drop N' (List.mem_cons_of_mem _ j1) (List.mem_cons_of_mem _ hed) list_dict
      have lD :(editAll (nameRaw os) D ((qs.take i).map PR.row)).length = 1408 :=editAll_length hl fun r hr => by
        obtain ⟨q,hq',rfl⟩ :=List.mem_map.mp hr
        have oq :=hP.ok q (List.mem_of_mem_take hq')
        exact ⟨oq.nm,by simp [nameRaw,oq.lw,rl],oq.lm⟩
      have f5 :=in_drop N' (List.mem_cons_of_mem _ nl) (List.mem_cons_of_mem _ hed) list_dict
      have kd :∀ x o,(x,o) ∈ nw → o ≠ dictOf (entD w.params p.x p.e.user p.e.ext p.e.sp p.e.ct) 6 → x ≠ p.x.ed :=fun x o hx ho => News.ne N' (List.mem_cons_of_mem _ hx) (List.mem_cons_of_mem _ hed) ho
      have kl :∀ x o,(x,o) ∈ nw → o ≠ listOf vs'.toArray a.n → x ≠ a.l :=fun x o hx ho => News.ne N' (List.mem_cons_of_mem _ hx) (List.mem_cons_of_mem _ j1) ho
      have lv' :vs'.length = 1408 :=by rw [hI'.length,lD]
      have R0 :∀ q ∈ dropN p.x.ed ((I,it) :: nw),q.1 ≠ p.x.ed :=dropN_ne
      generalize hR :dropN p.x.ed ((I,it) :: nw) = R at N2 f1 f2 f3 f4 f5 b1 b2 b3 b4 R0
      clear dm0 m1 m2 m3 m4 hI N'
      k_steps
      k_dflt (refine zip_src (by rfl) (by k_asm) (by k_asm) (by k_mem) (by k_mem) okp.hw rI (by rw [okp.lw]; decide) (fun q y => ∃ u,y = .int (nameOne q) u) ?_ ?_)
      · intro a₁ b₁ t₁ u₁ C oC D₁ ys m₂ s' news' E' ha hb hC h1 h2 hs F N
        k_steps
        all_goals exact outL (by assumption) (by assumption) ⟨_,rfl⟩
      · intro D₁ h₁ tk₁ ys hp₁ F N o1
        have hb :=paired_intsA hp₁
        have nd :@Ne Nat D₁ p.x.ed :=Ne.symm (o1 _ List.mem_cons_self)
        k_steps
        have dmI :DM w.params a vs' (editAll (nameRaw os) D ((qs.take i).map PR.row)) R :=⟨b1,b2,b3,b4,hI',lD⟩
        refine useL (o₀ :=listOf vs'.toArray a.n) (write_entry_ok (x :={ p.x with rl :=D₁,rn :=_ }) (e :={ p.e with raw :=nameRaw os p.e.raw }) (by assumption) (by ktr_unf) (by ktr_units) (by ktr_room) (by tb_rel) ⟨by k_mem,by k_mem,by k_mem,by k_mem,hb,okp.hm,by simp [nameRaw,okp.lw,rl],okp.lm⟩ (by omega) (by omega)) (by k_asm) (by k_asm) (by k_mem) ?_
        kpc_fact
        k_steps
        rename News _ _ _ (_ :: dropN _ _) => N9
        rename IntsAre _ (lay _ _ _) => q9
        rw [Int.toNat_natCast] at q9
        have la :a.l < I :=j8 _ j1
        have kq :∀ q ∈ nw,q.1 ≠ p.x.ed → q.1 ≠ a.l → q.1 < I ∧ q ∈ R :=fun q hq h1 h2 => ⟨j8 q hq,by rw [← hR]; exact mem_dropN.mpr ⟨List.mem_cons_of_mem _ hq,h1⟩⟩
        have iI :(I,it) ∈ R :=by rw [← hR]; exact mem_dropN.mpr ⟨List.mem_cons_self,Nat.ne_of_gt (j8 _ hed)⟩
        refine turnEnd2 (_ :: R.filter (fun q => decide (q.1 < I) && decide (q.1 ≠ a.l))) (by k_asm) (by exact News.sub N9 (sub_fil la iI)) (off_one (lt_fil la)) but2_again ?_
        have inn :∀ (o' :Obj),∀ q ∈ nw,q.1 ≠ p.x.ed → q.1 ≠ a.l → q ∈ (a.l,o') :: R.filter (fun q => decide (q.1 < I) && decide (q.1 ≠ a.l)) :=fun o' q hq h1 h2 => List.mem_cons_of_mem _ (List.mem_filter.mpr ⟨(kq q hq h1 h2).2,by simp [(kq q hq h1 h2).1,h2]⟩)
        refine ⟨⟨_,List.mem_cons_self,?_⟩,?_,?_,?_,?_,?_,?_,lt_fil la⟩
        · rw [take_row hq,editAll_snoc]; exact q9
        · exact inn _ _ j2 (kd _ _ j2 dict_inst) (kl _ _ j2 inst_list)
        · exact inn _ _ j3 (kd _ _ j3 (dict_ne (by decide))) (kl _ _ j3 dict_list')
        · exact inn _ _ j4 (kd _ _ j4 list_dict) (kl _ _ j4 (list_ne (by simp; omega)))
        · exact inn _ _ j5 (kd _ _ j5 list_dict) (kl _ _ j5 (list_ne (by simp; omega)))
        · intro q hq nq
          refine inn _ q (j6 q hq nq) ?_ nq
          exact hsep (p.x.ed,dictOf (entD w.params p.x p.e.user p.e.ext p.e.sp p.e.ct) 6) (List.mem_cons_of_mem _ (flat_mem hp (by simp))) q hq
        · intro j r hj hr q hq'
          have hr' :r ∈ qs :=List.mem_of_getElem? hr
          have okr :=hP.ok r hr'
          have hqn :=j7 j r (by omega) hr q hq'
          have hfar :Far p r :=far_at hP.far hq hr (by omega)
          have lw :=okr.hw.length
          have lm :=okr.hm.length
          have lw' :=okr.lw
          have lm' :=okr.lm
          simp only [List.mem_cons,List.not_mem_nil,or_false] at hq'
          rcases hq' with rfl | rfl | rfl | rfl | rfl
          · exact inn _ _ hqn (kd _ _ hqn dict_tup) (kl _ _ hqn tup_list)
          · exact inn _ _ hqn (kd _ _ hqn list_dict) (kl _ _ hqn (list_ne (by omega)))
          · exact inn _ _ hqn (kd _ _ hqn list_dict) (kl _ _ hqn (list_ne (by omega)))
          · exact inn _ _ hqn (kd _ _ hqn dict_inst) (kl _ _ hqn inst_list)
          · exact inn _ _ hqn (Ne.symm hfar.1) (kl _ _ hqn dict_list')
  · (intro I m₁ nw h tk; rintro ⟨v1,v2,rfl⟩; intro J F' N')
    clear F1 N1
    rcases J with ⟨hj9,j2,j3,j4,f0,j6,j7,j8⟩
    obtain ⟨vs',j1,hI'⟩ :=hj9
    have hc :=hP.count
    have hr :=hP.rows8
    rw [show (refs qs).length = qs.length from List.length_map ..,List.take_length,hr] at hI'
    k_steps
    try dsimp only
    refine mutG [] (by assumption) (by assumption) (by assumption) (by assumption) (fun q hq nq => j6 q hq nq) j1 (fun _ h => nomatch h) (fun _ h => nomatch h) ⟨⟨_,congrArg (fun k :Nat => Value.int (k :Int) _) hc⟩,rfl,_,rfl,hI'⟩
theorem rename_ok {l n l2 n2 :Nat} {ws us :List Value} {ps os :List Int} {u :Int} {t :Tok} :rename_ok_Q w dp un fr gd s mg mb G news a vs D l n l2 n2 ws us ps os u t :=rename_ok_L w dp un fr gd s mg mb G news a vs D l n l2 n2 ws us ps os u t
end
theorem kw71 :True :=by
  (k_with "mRangeRest" => (refine toStop ?_))
  (k_with "mcall builtin:len" => (refine toStop ?_))
  (k_with "mcall ref" => (refine toStop ?_))
  (k_with "meval ListComp" => (refine toStop ?_))
  (k_with "mexec Assign cons ListComp" => (refine toStop ?_))
  (k_with "mexec For Tuple Call" => (refine toStop ?_))
  (k_with "mexec For Tuple Name cons nil" => (refine toStop ?_))
  (k_with "msetItem ref int" => (refine toStop ?_))
  trivial
end
section
section
theorem kw72 :True :=by
  (k_with "msetItem ref int" => (k_extra "r8"))
  (k_with "mRangeRest" => (refine Wait.h ?_))
  (k_with "mexec For Tuple Call" => (k_extra "r6"))
  trivial
theorem kw73 :True :=by
  (k_with "msubscriptTail Name Name ref int" => ((k_here; k_dflt (refine kbo_sub (by k_asm) (by k_mem) (by with_reducible assumption) (by kbo_idx) (by kbo_idx) (by kbo_idx) ?_ (by with_unfolding_all rfl)))))
  (k_with "mexec While" => ((refine whl_start 100 ?_; refine Wait.h ?_)))
  (k_with "mlast exec While" => ((refine whl_start 100 ?_; refine Wait.h ?_)))
  trivial
theorem ite_t {b :Bool} {P Q :Prop} (h :b = true) (p :P) :if b = true then P else Q :=by rw [if_pos h]; exact p
theorem ite_f {b :Bool} {P Q :Prop} (h :b = false) (q :Q) :if b = true then P else Q :=by rw [if_neg (by rw [h]; decide)]; exact q
theorem ite_nt {b :Bool} {P Q :Prop} (h :b = true) (q :Q) :if (!b) = true then P else Q :=by rw [if_neg (by rw [h]; decide)]; exact q
theorem ite_nf {b :Bool} {P Q :Prop} (h :b = false) (p :P) :if (!b) = true then P else Q :=by rw [if_pos (by rw [h]; rfl)]; exact p
theorem kw74 :True :=by
  (k_with "mite" => (first | with_reducible refine ite_t (by assumption) ?_ | with_reducible refine ite_f (by assumption) ?_ | with_reducible refine ite_nt (by assumption) ?_ | with_reducible refine ite_nf (by assumption) ?_))
  trivial
noncomputable def nearF (bs :List Bool) :Nat → Nat → Nat → Option Nat
  | 0,_,_ => none
  | f + 1,l,r =>
    if 0 < l ∨ r < 10 then
      if 0 < l ∧ bs.getD (l - 1) false = false then some (l - 1)
      else if r < 10 ∧ bs.getD (r + 1) false = false then some (r + 1)
      else nearF bs f (l - 1) (if r < 10 then r + 1 else r)
    else none
theorem nearF_l {bs :List Bool} {f i r :Nat} (h :0 < i) (c :bs.getD (i - 1) false = false) :nearF bs (f + 1) i r = some (i - 1) :=by
  rw [nearF,if_pos (Or.inl h),if_pos ⟨h,c⟩]
theorem nearF_r {bs :List Bool} {f i r :Nat} (h :0 < i → bs.getD (i - 1) false = true) (d :r < 10) (c :bs.getD (r + 1) false = false) :nearF bs (f + 1) i r = some (r + 1) :=by
  rw [nearF,if_pos (Or.inr d),if_neg (fun x => by rw [h x.1] at x; cases x.2),if_pos ⟨d,c⟩]
theorem nearF_go {bs :List Bool} {f i r r' :Nat} (h :0 < i → bs.getD (i - 1) false = true) (d :r < 10 → bs.getD (r + 1) false = true) (o :0 < i ∨ r < 10) (e :r' = if r < 10 then r + 1 else r) :nearF bs (f + 1) i r = nearF bs f (i - 1) r' :=by
  rw [nearF,if_pos o,if_neg (fun x => by rw [h x.1] at x; cases x.2),if_neg (fun x => by rw [d x.1] at x; cases x.2),e]
theorem nearF_none {bs :List Bool} {f i r :Nat} (h :¬ 0 < i) (d :¬ r < 10) :nearF bs (f + 1) i r = none :=by
  rw [nearF,if_neg (fun o => o.elim h d)]
theorem fr_eq {g h :Heap} {L :Addr} {m m' :Str → Option Value} (F :Fr g L h m) (e :m = m') :Fr g L h m' :=e ▸ F
section
variable {x1 x2 :Str} {a b c d :Option Value} {m :Str → Option Value}
theorem nf2 (n :x1 ≠ x2) :(fun y => if y = x2 then a else if y = x1 then b else if y = x1 then c else if y = x2 then d else m y) = (fun z => if z = x1 then b else if z = x2 then a else m z) :=by
  funext z
  by_cases h1 :z = x1
  · rw [if_neg (by rw [h1]; exact n),if_pos h1,if_pos h1]
  · by_cases h2 :z = x2
    · rw [if_pos h2,if_neg h1,if_pos h2]
    · simp [h1,h2]
theorem nf1 :(fun y => if y = x1 then b else if y = x1 then c else if y = x2 then d else m y) = (fun z => if z = x1 then b else if z = x2 then d else m z) :=by
  funext z
  by_cases h1 :z = x1 <;> simp [h1]
theorem nf3 (n :x1 ≠ x2) :(fun y => if y = x2 then a else if y = x1 then c else if y = x2 then d else m y) = (fun z => if z = x1 then c else if z = x2 then a else m z) :=by
  funext z
  by_cases h1 :z = x1
  · rw [if_neg (by rw [h1]; exact n),if_pos h1,if_pos h1]
  · by_cases h2 :z = x2
    · rw [if_pos h2,if_neg h1,if_pos h2]
    · simp [h1,h2]
end
theorem lr_ne :Str.ofString "left" ≠ Str.ofString "right" :=by decide
noncomputable def NearP (s :Shared) (g :Heap) (L :Addr) (m₀ :Str → Option Value) (news :List (Addr × Obj)) (bs :List Bool) (k f :Nat) (s' :Shared) :Prop :=
  ∃ h tk i r t1 t2,s' = { s with heap :=h,toks :=tk } ∧ i + (10 - r) < f ∧ i ≤ 10 ∧ r ≤ 10 ∧ Fr g L h (fun z => if z = Str.ofString "left" then some (.int (i :Nat) t1) else if z = Str.ofString "right" then some (.int (r :Nat) t2) else m₀ z) ∧ News g L h news ∧ nearF bs 30 k k = nearF bs f i r
theorem near_m1 {i r f :Nat} (h :i + (10 - r) < f + 1) (r10 :r < 10) :i - 1 + (10 - (r + 1)) < f :=
  Nat.lt_of_lt_of_le (Nat.add_lt_add_of_le_of_lt (Nat.sub_le i 1) (Nat.sub_lt_sub_left r10 (Nat.lt_succ_self r))) (Nat.le_of_lt_succ h)
theorem near_m2 {i r f :Nat} (h :i + (10 - r) < f + 1) (i0 :0 < i) :i - 1 + (10 - r) < f :=
  Nat.lt_of_lt_of_le (Nat.add_lt_add_right (Nat.sub_lt i0 Nat.one_pos) _) (Nat.le_of_lt_succ h)
noncomputable abbrev nearest_ok_Q (w :World) (dp un :Nat) (fr :Option (List Env)) (gd :Option (List Code)) (s :Shared) (mg mb :Str → Option Value) (G :Heap) (news :List (Addr × Obj)) (l n k :Nat) (t :Tok) (ws :List Value) (bs :List Bool) :Prop :=∀ (gh :GH w mg mb G) (st :Stay G s.heap) (hn :HN G s.heap news) (lv :Lv dp un 8) (q1 :(l,listOf ws.toArray n) ∈ news) (hb :LSm.BoolsAre ws bs) (hl :bs.length = 11) (hk :k ≤ 10),wpAny (model rw_tg0048_01.row.prog w) (AR dp un fr gd) (call (.ref 207) [.ref l,.int (k :Nat) t]) (RetG s news fun r tl => match nearF bs 30 k k with | some i => IsI (i :Nat) r tl | none => IsN r tl) (fun _ _ => False) s
theorem nearest_ok_L :∀ w dp un fr gd s mg mb G news l n k t ws bs,nearest_ok_Q w dp un fr gd s mg mb G news l n k t ws bs :=by
  intro w dp un fr gd s mg mb G news l n k t ws bs
  delta nearest_ok_Q
  intro gh st hn lv q1 hb hl hk
  have hlw :=hb.length
  cell_enter
  k_steps
  have hmin :¬ ((bs.length :Int) < (k :Int)) :=by rw [hl]; exact Int.not_lt.mpr (Int.ofNat_le.mpr (Nat.le_succ_of_le hk))
  rename Fr _ _ _ _ => F1
  rename News _ _ _ _ => N1
  simp only [if_neg hmin] at F1
  have N2 :=News.sub (l' :=news) N1 (fun p hp => List.mem_cons_of_mem _ hp)
  refine ⟨while_inv (NearP s _ _ _ news bs k) (by passes_own) (fun _ h => by obtain ⟨_,_,_,_,_,_,_,h,_⟩ :=h; exact absurd h (Nat.not_lt_zero _)) ?_ 30 100 _ ⟨_,_,k,k,_,_,rfl,by omega,hk,hk,F1,N2,rfl⟩⟩
  (intro f s'; rintro ⟨h,tk,i,r,t1,t2,rfl,hf,hi,hr,F',N',hq⟩)
  clear F1 N1 N2
  have hlen :ws.length = 11 :=by omega
  have i1 :0 < i → ((i :Int) - 1) = ((i - 1 :Nat) :Int) :=fun h => by omega
  have r1 :((r :Int) + 1) = ((r + 1 :Nat) :Int) :=rfl
  by_cases c0 :0 < i
  · have e0 :((i :Int) - 1).toNat = i - 1 :=by rw [i1 c0]; exact Int.toNat_natCast _
    cases c1 :bs.getD (i - 1) false with
    | false =>
      have c2 :bs.getD ((i :Int) - 1).toNat false = false :=by rw [e0]; exact c1
      k_steps
      rw [nearF_l c0 c1] at hq
      rw [hq]
      dsimp only
      rw [i1 c0]
      tb_start
      exact ⟨rfl,_,rfl⟩
    | true =>
      have c2 :bs.getD ((i :Int) - 1).toNat false = true :=by rw [e0]; exact c1
      by_cases d0 :r < 10
      · have e1 :((r :Int) + 1).toNat = r + 1 :=Int.toNat_natCast (r + 1)
        cases d1 :bs.getD (r + 1) false with
        | false =>
          have d2 :bs.getD ((r :Int) + 1).toNat false = false :=by rw [e1]; exact d1
          k_steps
          rw [nearF_r (fun _ => c1) d0 d1] at hq
          rw [hq]
          dsimp only
          rw [r1]
          tb_start
          exact ⟨rfl,_,rfl⟩
        | true =>
          have d2 :bs.getD ((r :Int) + 1).toNat false = true :=by rw [e1]; exact d1
          k_steps
          rename Fr _ _ _ _ => F3
          rename News _ _ _ _ => N3
          simp only [i1 c0,r1] at F3
          rw [nearF_go (fun _ => c1) (fun _ => d1) (Or.inl c0) rfl,if_pos d0] at hq
          exact ⟨_,_,i - 1,r + 1,_,_,rfl,near_m1 hf (by omega),Nat.le_trans (Nat.sub_le _ _) hi,by omega,fr_eq F3 (nf2 lr_ne),N3,hq⟩
      · k_steps
        rename Fr _ _ _ _ => F3
        rename News _ _ _ _ => N3
        simp only [i1 c0] at F3
        rw [nearF_go (fun _ => c1) (fun h => absurd h d0) (Or.inl c0) rfl,if_neg d0] at hq
        exact ⟨_,_,i - 1,r,_,_,rfl,near_m2 hf c0,Nat.le_trans (Nat.sub_le _ _) hi,hr,fr_eq F3 nf1,N3,hq⟩
  · have i0 :i = 0 :=by omega
    by_cases d0 :r < 10
    · have e1 :((r :Int) + 1).toNat = r + 1 :=Int.toNat_natCast (r + 1)
      cases d1 :bs.getD (r + 1) false with
      | false =>
        have d2 :bs.getD ((r :Int) + 1).toNat false = false :=by rw [e1]; exact d1
        k_steps
        rw [nearF_r (fun h => absurd h c0) d0 d1] at hq
        rw [hq]
        dsimp only
        rw [r1]
        tb_start
        exact ⟨rfl,_,rfl⟩
      | true =>
        have d2 :bs.getD ((r :Int) + 1).toNat false = true :=by rw [e1]; exact d1
        k_steps
        rename Fr _ _ _ _ => F3
        rename News _ _ _ _ => N3
        simp only [r1] at F3
        rw [nearF_go (fun h => absurd h c0) (fun _ => d1) (Or.inr d0) rfl,if_pos d0] at hq
        exact ⟨_,_,i - 1,r + 1,_,_,rfl,near_m1 hf (by omega),Nat.le_trans (Nat.sub_le _ _) hi,by omega,fr_eq F3 (by subst i0; exact nf3 lr_ne),N3,hq⟩
    · k_steps
      rw [nearF_none c0 d0] at hq
      rw [hq]
      dsimp only
      tb_start
      exact ⟨rfl,rfl⟩
theorem nearest_ok {l n k :Nat} {t :Tok} {ws :List Value} {bs :List Bool} :nearest_ok_Q w dp un fr gd s mg mb G news l n k t ws bs :=nearest_ok_L w dp un fr gd s mg mb G news l n k t ws bs
end
theorem kw75 :True :=by
  (k_with "mRangeRest" => (refine toStop ?_))
  (k_with "mexec For Tuple Call" => (refine toStop ?_))
  (k_with "mexec While" => (refine toStop ?_))
  (k_with "mite" => (refine toStop ?_))
  (k_with "mlast exec While" => (refine toStop ?_))
  (k_with "msetItem ref int" => (refine toStop ?_))
  (k_with "msubscriptTail Name Name ref int" => (refine toStop ?_))
  trivial
end
section
section
theorem kw76 :True :=by
  (k_with "msetItem ref int" => (k_extra "r8"))
  (k_with "mRangeRest" => (refine Wait.h ?_))
  (k_with "mexec For Tuple Call" => (k_extra "r6"))
  trivial
theorem kw77 :True :=by
  (k_with "q25" => ((refine useI (directory_blocks_ok (by assumption) (by ktr_unf) (by ktr_units) (by ktr_room) (by tb_rel)) (by k_asm) (by k_asm) ?_; kst_same)))
  (k_with "mcall ref" => (((with_reducible show wpAny _ _ (call (.ref 106) _) _ _ _); first | k_extra "q25" | k_dflt (k_extra "q25"))))
  (k_with "q26" => ((refine useP (live_entries_ok (by assumption) (by ktr_unf) (by ktr_units) (by ktr_room) (by tb_rel)) (by k_asm) (by k_asm) ?_; kpc_obj)))
  (k_with "mcall ref" => (((with_reducible show wpAny _ _ (call (.ref 183) _) _ _ _); first | k_extra "q26" | k_dflt (k_extra "q26"))))
  (k_with "mpyIter ref" => (refine Wait.h ?_))
  (k_with "mexec Assign cons ListComp" => (k_extra "r4"))
  (k_with "mCompSrc" => (refine Wait.h ?_))
  (k_with "mexec For Name Attribute cons nil" => (((rename Fr _ _ _ _ => lF'); (with_unfolding_all refine' For_turns lF' ?_; k_whole))))
  trivial
noncomputable def But3 (m₀ :Str → Option Value) (x1 x2 x3 :Str) (m :Str → Option Value) :Prop :=∃ v1 v2 v3,m = fun z => if z = x3 then v3 else if z = x2 then v2 else if z = x1 then v1 else m₀ z
theorem but3_start {m₀ :Str → Option Value} {x1 x2 x3 :Str} :But3 m₀ x1 x2 x3 m₀ :=⟨m₀ x1,m₀ x2,m₀ x3,funext fun z => by
  by_cases h3 :z = x3
  · subst h3; rw [if_pos rfl]
  · rw [if_neg h3]
    by_cases h2 :z = x2
    · subst h2; rw [if_pos rfl]
    · rw [if_neg h2]
      by_cases h1 :z = x1
      · subst h1; rw [if_pos rfl]
      · rw [if_neg h1]⟩
theorem but3_again {m₀ :Str → Option Value} {x1 x2 x3 :Str} {a b c d e f :Option Value} :But3 m₀ x1 x2 x3 (fun z => if z = x3 then c else if z = x2 then b else if z = x1 then a else if z = x3 then f else if z = x2 then e else if z = x1 then d else m₀ z) :=⟨a,b,c,funext fun z => by
  by_cases h3 :z = x3
  · simp only [if_pos h3]
  · by_cases h2 :z = x2
    · simp only [if_neg h3,if_pos h2]
    · by_cases h1 :z = x1
      · simp only [if_neg h3,if_neg h2,if_pos h1]
      · simp only [if_neg h3,if_neg h2,if_neg h1]⟩
noncomputable def markMap (bs :List Bool) (ms :List Int) :List Bool :=ms.foldl (fun bs b => if 0 < b ∧ b < 11 then bs.set b.toNat true else bs) bs
theorem markMap_length {ms :List Int} :∀ {bs :List Bool},(markMap bs ms).length = bs.length :=by
  unfold markMap
  induction ms with
  | nil => intros bs; rfl
  | cons b ms ih =>
    intros bs
    rw [List.foldl_cons,ih]
    split
    · rw [List.length_set]
    · rfl
theorem markMap_snoc {bs :List Bool} {ms :List Int} {b :Int} :markMap bs (ms ++ [b]) = if 0 < b ∧ b < 11 then (markMap bs ms).set b.toNat true else markMap bs ms :=by simp [markMap]
noncomputable def markAll (bs :List Bool) (rs :List (Nat × Ent)) :List Bool :=rs.foldl (fun bs r => markMap bs r.2.map) bs
theorem markAll_length {rs :List (Nat × Ent)} :∀ {bs :List Bool},(markAll bs rs).length = bs.length :=by
  unfold markAll
  induction rs with
  | nil => intros bs; rfl
  | cons r rs ih => intros bs; rw [List.foldl_cons,ih,markMap_length]
theorem markAll_snoc {bs :List Bool} {rs :List (Nat × Ent)} {r :Nat × Ent} :markAll bs (rs ++ [r]) = markMap (markAll bs rs) r.2.map :=by simp [markAll]
theorem take_row' {ps :List PR} {i :Nat} {p :PR} (h :ps[i]? = some p) :(ps.take (i + 1)).map PR.row = (ps.take i).map PR.row ++ [p.row] :=by
  rw [List.take_add_one,h,List.map_append]
  rfl
theorem markAll_take {bs :List Bool} {qs :List PR} {i :Nat} {p :PR} (h :qs[i]? = some p) :markAll bs ((qs.take (i + 1)).map PR.row) = markMap (markAll bs ((qs.take i).map PR.row)) p.e.map :=by
  rw [take_row' h,markAll_snoc]
theorem markMap_take {bs :List Bool} {ms :List Int} {i :Nat} {b :Int} (h :ms[i]? = some b) :markMap bs (ms.take (i + 1)) = if 0 < b ∧ b < 11 then (markMap bs (ms.take i)).set b.toNat true else markMap bs (ms.take i) :=by
  rw [List.take_add_one,h]; exact markMap_snoc
noncomputable def usedL (D :List Int) :List Bool :=markAll ((List.range 11).map fun i => decide (i < 2)) (rowsF (liveF D))
theorem bools_set {u :Bool} :∀ {vs :List Value} {xs :List Bool},LSm.BoolsAre vs xs → ∀ k :Nat,LSm.BoolsAre (vs.set k (.bool u)) (xs.set k u)
  | _,_,.nil,_ => .nil
  | _,_,.cons n h,0 => .cons u h
  | _,_,.cons n h,k + 1 => .cons n (bools_set h k)
theorem paired_marks {f :Nat → Bool} {rs :List Nat} {ys :List Value} (h :Paired (fun i y => y = Value.bool (f i)) rs ys) :LSm.BoolsAre ys (rs.map f) :=by
  induction h with
  | nil => exact .nil
  | cons h _ ih => rw [h]; exact .cons _ ih
theorem set_firstB {prog :Program} {w :World} {A :Around} {E :Value → Shared → Prop} {s :Shared} {h₀ :Heap} {L D :Addr} {m :Str → Option Value} {news :List (Addr × Obj)} {vs :List Value} {xs :List Bool} {n :Nat} {k :Int} {x :Bool} {t :Tok} {Q :Unit → Shared → Prop}
    (F :Fr h₀ L s.heap m) (N :News h₀ L s.heap news) (hm :(D,listOf vs.toArray n) ∈ news) (hI :LSm.BoolsAre vs xs) (h0 :0 ≤ k) (h1 :k < xs.length) (hfit :k < 2 ^ 63)
    (h :∀ h',Fr h₀ L h' m → News h₀ L h' ((D,listOf (vs.set k.toNat (.bool x)).toArray n) :: dropN D news) → LSm.BoolsAre (vs.set k.toNat (.bool x)) (xs.set k.toNat x) → Q () { s with heap :=h' }) :
    wpAny (model prog w) A (setItem (.ref D) (.int k t) (.bool x)) Q E s :=by
  have N' :=News.first N hm
  have z :=N' (D,listOf vs.toArray n) List.mem_cons_self
  have hl :vs.length = xs.length :=hI.length
  refine ki_setAt z.1 h0 hfit (by rw [List.size_toArray,hl]; exact h1) (h _ (F.change (Heap.SameBut.update ..) z.2.1 z.2.2) (ki_turn (pre :=[]) _ N' (fun _ h => nomatch h) dropN_ne ?_ ?_) (bools_set hI _))
  · show vs.toArray.setIfInBounds k.toNat (.bool x) = (vs.set k.toNat (.bool x)).toArray
    apply Array.toList_inj.mp
    simp
  · simp
theorem kw78 :True :=by
  (k_with "msetItem ref int" => ((refine set_firstB (by k_asm) (by k_asm) (by k_mem) (by assumption) (by omega) (by omega) (by omega) ?_; intro h9 F9 N9 hI9)))
  trivial
theorem parts {x d z :Addr × Obj} {r n led :List (Addr × Obj)} (h :x :: (r ++ d :: z :: n) = led) (hs :Apart (x :: r) (d :: z :: n)) (o2 :∀ p ∈ z :: n,p.1 ≠ d.1) :
    d ∈ led ∧ x ∈ dropN d.1 led ∧ (∀ q ∈ r,q ∈ dropN d.1 led) ∧ z ∈ dropN d.1 led ∧ ∀ q ∈ n,q ∈ dropN d.1 led :=by
  subst h
  have ne :∀ q ∈ x :: r,q.1 ≠ d.1 :=fun q hq => Ne.symm (hs q hq d List.mem_cons_self)
  refine ⟨List.mem_cons_of_mem _ (List.mem_append_right _ List.mem_cons_self),mem_dropN.mpr ⟨List.mem_cons_self,ne _ List.mem_cons_self⟩,fun q hq => mem_dropN.mpr ⟨List.mem_cons_of_mem _ (List.mem_append_left _ hq),ne q (List.mem_cons_of_mem _ hq)⟩,
    mem_dropN.mpr ⟨List.mem_cons_of_mem _ (List.mem_append_right _ (List.mem_cons_of_mem _ List.mem_cons_self)),o2 _ List.mem_cons_self⟩,fun q hq => mem_dropN.mpr ⟨List.mem_cons_of_mem _ (List.mem_append_right _ (List.mem_cons_of_mem _ (List.mem_cons_of_mem _ hq))),o2 q (List.mem_cons_of_mem _ hq)⟩⟩
theorem sub_drop {d :Addr × Obj} {led :List (Addr × Obj)} (h :d ∈ led) :∀ p ∈ d :: dropN d.1 led,p ∈ led :=fun p hp => by
  rcases List.mem_cons.mp hp with rfl | hp
  · exact h
  · exact (mem_dropN.mp hp).1
theorem swap2 {x y :Addr × Obj} {R :List (Addr × Obj)} :∀ q ∈ [x] ++ y :: R,q ∈ y :: x :: R :=fun q hq => by
  simp only [List.cons_append,List.nil_append,List.mem_cons] at hq ⊢
  rcases hq with h | h | h
  · exact Or.inr (Or.inl h)
  · exact Or.inl h
  · exact Or.inr (Or.inr h)
noncomputable abbrev IsBL (bs :List Bool) (r :Value) (tl :List (Addr × Obj)) :Prop :=∃ x ws n,r = .ref x ∧ tl = [(x,listOf ws.toArray n)] ∧ LSm.BoolsAre ws bs
theorem useBL {M :Model} {A :Around} {E :Value → Shared → Prop} {s :Shared} {g :Heap} {L :Addr} {m :Str → Option Value} {news :List (Addr × Obj)} {t :Sem Value} {Q :Value → Shared → Prop} {bs :List Bool} (spec :wpAny M A t (RetG s news (IsBL bs)) (fun _ _ => False) s) (F :Fr g L s.heap m) (N :News g L s.heap news)
    (k :∀ (x :Addr) ws n h' tk,Fr g L h' m → News g L h' ((x,listOf ws.toArray n) :: news) → LSm.BoolsAre ws bs → (∀ q ∈ news,q.1 ≠ x) → Q (.ref x) { s with heap :=h',toks :=tk }) :wpAny M A t Q E s :=
  useG spec F N fun r tl h' tk hP F' N' lt => by rcases hP with ⟨x,ws,n,e1,e2,hI⟩; subst e1; subst e2; exact k x ws n h' tk F' N' hI (lt _ (List.mem_singleton.mpr rfl))
section
variable (w dp un fr gd s mg mb G news a vs D)
noncomputable abbrev used_blocks_ok_Q :Prop :=∀ (gh :GH w mg mb G) (st :Stay G s.heap) (hn :HN G s.heap news) (lv :Lv dp un 8) (dm :DM w.params a vs D news),wpAny (model rw_tg0048_01.row.prog w) (AR dp un fr gd) (call (.ref 188) [.ref a.d]) (RetG s news (IsBL (usedL D))) (fun _ _ => False) s
end
theorem used_blocks_ok_L :∀ w dp un fr gd s mg mb G news a vs D,used_blocks_ok_Q w dp un fr gd s mg mb G news a vs D :=by
  intro w dp un fr gd s mg mb G news a vs D
  delta used_blocks_ok_Q
  intro gh st hn lv dm
  have dm0 :=dm
  obtain ⟨m1,m2,m3,m4,hI,hl⟩ :=dm
  ktr_enter
  rename Fr _ _ _ _ => F0
  with_unfolding_all have F0 :Fr _ _ _ (frm []) :=F0
  dsimp only [frm] at F0
  k_steps
  refine ⟨?_⟩
  k_dflt (refine LCg.CompSrc.range (by rfl) (by k_asm) (by k_asm) (by assumption) (by first | decide | rfl) (by first | rfl | decide) (by first | size_fits | exact Nat.le_of_ble_eq_true rfl) ?_)
  intro g9
  refine rest_range (n :=11) (fun i y => y = .bool (decide (i < 2))) ?_ ?_
  · intro i t I oI C oC D ys m₂ h tk E' hi hC hx F N
    k_steps
    · refine outL (by assumption) (by assumption) (congrArg Value.bool ?_)
      first | exact (decide_eq_true (show i < 2 by omega)).symm | (rw [decide_eq_true (show i < 2 by omega)]; exact decide_eq_true (by assumption))
    · refine outL (by assumption) (by assumption) (congrArg Value.bool ?_)
      exact Eq.trans (by rfl) (decide_eq_false (show ¬ i < 2 by omega)).symm
  · intro ys hp
    unfold LCg.FinA
    intro Dl h tk F N o1
    k_steps
    have hb :=paired_marks hp
    clear hp
    clear F0
    rename Fr _ _ _ _ => F1
    rename News _ _ _ _ => N1
    rename Prs _ _ _ => hP
    rename Apart _ _ => hsep
    rename List PR => qs
    have lq :=hP.len
    generalize hbs0 :List.map (fun i => decide (i < 2)) (List.range 11) = bs0 at hb
    have hb0 :bs0.length = 11 :=by rw [← hbs0]; rfl
    have o2 :=off1_ne o1
    generalize hled :(_ :: (flat w.params qs ++ _ :: _ :: news) :List (Addr × Obj)) = led at N1
    obtain ⟨P0,P1,P2,P3,P4⟩ :=parts hled hsep o2
    have sub0 :=sub_drop P0
    dsimp only at P0 P1 P2 P3 P4 sub0
    have R0 :∀ p ∈ dropN Dl led,p.1 ≠ Dl :=dropN_ne
    clear hled
    generalize dropN Dl led = R at P1 P2 P3 P4 sub0 R0
    refine ⟨?_⟩
    refine list_turns (items :=refs qs) (news :=(Dl,listOf ys.toArray ys.length) :: R) (But3 _ (Str.ofString "number") (Str.ofString "entry") (Str.ofString "block")) (fun I i nw => ∃ (ws :List Value) (n :Nat),nw = (Dl,listOf ws.toArray n) :: R ∧ LSm.BoolsAre ws (markAll bs0 ((qs.take i).map PR.row)) ∧ ∀ p ∈ nw,p.1 < I) (by rfl) (by exact F1) (by exact N1) sub0 (List.mem_cons_of_mem _ P1) (fun I i nw ⟨ws,n,e,_⟩ => e ▸ List.mem_cons_of_mem _ P1) ?_ but3_start (fun I h => ⟨ys,_,rfl,hb,h⟩) ?_
    · (intro I i v m₁ nw h tk it lt hv; rintro ⟨v1,v2,v3,rfl⟩; rintro ⟨ws,n,rfl,hI',lt'⟩; intro F' N')
      clear F1 N1
      rw [List.getElem?_map] at hv
      obtain ⟨p,hq,hv'⟩ :=Option.map_eq_some_iff.mp hv
      · have hv' :Value.ref p.T = v :=hv'
        subst hv'
        have hp :p ∈ qs :=List.mem_of_getElem? hq
        have in1 :∀ q ∈ one w.params p,q ∈ R :=fun q hq => P2 q (flat_mem hp hq)
        have f1 :(p.T,tupOf [.int (p.num :Nat) p.tn,.ref p.x.e]) ∈ R :=in1 _ List.mem_cons_self
        have f2 :(p.x.e,instObj 74 p.x.ed) ∈ R :=in1 _ (by simp)
        have f3 :(p.x.ed,dictOf (entD w.params p.x p.e.user p.e.ext p.e.sp p.e.ct) 6) ∈ R :=in1 _ (by simp)
        have f4 :(p.x.ml,listOf p.ms.toArray p.x.mn) ∈ R :=in1 _ (by simp)
        have hm :=(hP.ok p hp).hm
        have n1 :=P4 _ m1
        have n2 :=P4 _ m2
        clear dm0 m1 m2 m3 m4 hI hb sub0
        k_steps
        refine ⟨?_⟩
        rename Fr _ _ _ _ => F2
        rename News _ _ _ _ => N2
        have lw :=hm.length
        have lm :=(hP.ok p hp).lm
        have bl :(markAll bs0 ((qs.take i).map PR.row)).length = 11 :=by rw [markAll_length,hb0]
        generalize hbi :markAll bs0 ((qs.take i).map PR.row) = bi at hI' bl
        have sub1 :∀ p ∈ (Dl,listOf ws.toArray n) :: (I,it) :: R,p ∈ (I,it) :: (Dl,listOf ws.toArray n) :: R :=fun p hp => by
          simp only [List.mem_cons] at hp ⊢
          rcases hp with h | h | h
          · exact Or.inr (Or.inl h)
          · exact Or.inl h
          · exact Or.inr (Or.inr h)
        refine list_turns (items :=p.ms) (news :=(Dl,listOf ws.toArray n) :: (I,it) :: R) (But1 _ (Str.ofString "block")) (fun I2 j nw => ∃ (ws' :List Value) (n' :Nat),nw = (Dl,listOf ws'.toArray n') :: (I,it) :: R ∧ LSm.BoolsAre ws' (markMap bi (p.e.map.take j)) ∧ ∀ p ∈ nw,p.1 < I2) (by rfl) (by exact F2) (by exact N2) sub1 (List.mem_cons_of_mem _ (List.mem_cons_of_mem _ f4)) (fun I2 j nw ⟨ws',n',e,_⟩ => e ▸ List.mem_cons_of_mem _ (List.mem_cons_of_mem _ f4)) ?_ but1_start (fun I2 h => ⟨ws,_,rfl,hI',h⟩) ?_
        · (intro I2 j v m₁ nw h tk it2 lt2 hv; rintro ⟨v4,rfl⟩; rintro ⟨ws',n',rfl,hI2,lt2'⟩; intro F' N')
          clear F2 N2
          have hj :j < p.e.map.length :=by
            obtain ⟨h1,_⟩ :=List.getElem?_eq_some_iff.mp hv
            omega
          obtain ⟨t9,ht9⟩ :=hm.get j p.e.map[j] (List.getElem?_eq_getElem hj)
          rw [ht9] at hv
          have hv' :=Option.some.inj hv
          subst hv'
          have bl2 :(markMap bi (p.e.map.take j)).length = 11 :=by rw [markMap_length,bl]
          have mk :=markMap_take (bs :=bi) (List.getElem?_eq_getElem hj)
          generalize hb2 :markMap bi (p.e.map.take j) = b2 at hI2 bl2 mk
          generalize p.e.map[j] = bv at mk
          clear hI'
          have R1 :∀ p ∈ (I,it) :: R,p.1 ≠ Dl :=fun p hp => by
            rcases List.mem_cons.mp hp with rfl | hp
            · exact Nat.ne_of_gt (lt_head lt')
            · exact R0 p hp
          k_steps
          · refine turnEnd2 (_ :: (I,it) :: R) (by k_asm) (by exact News.sub (by k_asm) (sub_one (lt_head lt2') R1)) (off_one (lt_same lt2')) but1_again ⟨_,_,rfl,?_,lt_same lt2'⟩
            rw [mk,if_pos ⟨by assumption,by assumption⟩]
            assumption
          · refine turnEnd2 (_ :: (I,it) :: R) (by k_asm) (by k_asm) (off_one lt2') but1_again ⟨_,_,rfl,?_,lt2'⟩
            rw [mk,if_neg (fun h => absurd h.2 (by assumption))]
            exact hI2
          · refine turnEnd2 (_ :: (I,it) :: R) (by k_asm) (by k_asm) (off_one lt2') but1_again ⟨_,_,rfl,?_,lt2'⟩
            rw [mk,if_neg (fun h => absurd h.1 (by assumption))]
            exact hI2
        · (intro I2 m₁ nw h tk; rintro ⟨v4,rfl⟩; rintro ⟨ws',n',rfl,hI2,lt2'⟩; intro F' N')
          clear F2 N2
          rw [show p.ms.length = p.e.map.length from lw,List.take_length] at hI2
          k_steps
          refine turnEnd2 (_ :: R) (by k_asm) (by exact News.sub (by k_asm) swap2) (off_one (lt_same lt')) but3_again ⟨_,_,rfl,?_,lt_same lt'⟩
          rw [markAll_take hq,hbi]
          exact hI2
    · (intro I m₁ nw h tk; rintro ⟨v1,v2,v3,rfl⟩; rintro ⟨ws,n,rfl,hI',lt'⟩; intro F' N')
      clear F1 N1
      have hr :=hP.rows8
      rw [show (refs qs).length = qs.length from List.length_map ..,List.take_length,hr] at hI'
      k_steps
      try dsimp only
      refine retG [(Dl,listOf ws.toArray n)] (by k_asm) (by k_asm) (by assumption) (by assumption) (fun q hq => List.mem_cons_of_mem _ (P4 q hq)) (fun p hp => by rw [List.mem_singleton.mp hp]; exact List.mem_cons_self) (fun p hp q hq => by rw [List.mem_singleton.mp hp]; exact R0 q (P4 q hq)) ⟨_,_,_,rfl,rfl,?_⟩
      unfold usedL
      rw [hbs0]
      exact hI'
theorem used_blocks_ok :used_blocks_ok_Q w dp un fr gd s mg mb G news a vs D :=used_blocks_ok_L w dp un fr gd s mg mb G news a vs D
end
theorem kw79 :True :=by
  (k_with "mCompSrc" => (refine toStop ?_))
  (k_with "mRangeRest" => (refine toStop ?_))
  (k_with "mcall ref" => (refine toStop ?_))
  (k_with "mexec Assign cons ListComp" => (refine toStop ?_))
  (k_with "mexec For Name Attribute cons nil" => (refine toStop ?_))
  (k_with "mexec For Tuple Call" => (refine toStop ?_))
  (k_with "mpyIter ref" => (refine toStop ?_))
  (k_with "msetItem ref int" => (refine toStop ?_))
  trivial
end
section
section
theorem kw80 :True :=by
  (k_with "msetItem ref int" => (k_extra "r8"))
  (k_with "mRangeRest" => (refine Wait.h ?_))
  (k_with "mexec For Tuple Call" => (k_extra "r6"))
  trivial
theorem kw81 :True :=by
  (k_with "mcall ref" => (((with_reducible show wpAny _ _ (call (.ref 259) _) _ _ _); first | k_extra "q13" | k_dflt (k_extra "q13"))))
  (k_with "meval ListComp" => ((k_dflt (refine ListComp_two (F₀ :=by k_asm) (by rfl) (by rfl) (by decide) (by rfl) (by decide) (by rfl) (by rfl) (by rfl) (by decide) (by decide) (by rfl) ?_))))
  trivial
theorem mid_in {x z :Addr × Obj} {r n led :List (Addr × Obj)} (h :x :: (r ++ z :: n) = led) :z ∈ led ∧ ∀ q ∈ n,q ∈ led :=by
  subst h
  exact ⟨List.mem_cons_of_mem _ (List.mem_append_right _ List.mem_cons_self),fun q hq => List.mem_cons_of_mem _ (List.mem_append_right _ (List.mem_cons_of_mem _ hq))⟩
theorem ints_app :∀ {us vs :List Value} {xs ys :List Int},IntsAre us xs → IntsAre vs ys → IntsAre (us ++ vs) (xs ++ ys)
  | _,_,_,_,.nil,h => h
  | _,_,_,_,.cons n t g,h => .cons n t (ints_app g h)
theorem ints_flat :∀ {qs :List PR},(∀ p ∈ qs,IntsAre p.ms p.e.map) → IntsAre (qs.flatMap PR.ms) (qs.flatMap fun p => p.e.map)
  | [],_ => .nil
  | p :: qs,h => by
    rw [List.flatMap_cons,List.flatMap_cons]
    exact ints_app (h p List.mem_cons_self) (ints_flat fun q hq => h q (List.mem_cons_of_mem _ hq))
theorem flat_len :∀ {qs :List PR},(∀ p ∈ qs,p.e.map.length = 16) → (qs.flatMap fun p => p.e.map).length = 16 * qs.length
  | [],_ => rfl
  | p :: qs,h => by
    rw [List.flatMap_cons,List.length_append,List.length_cons,h p List.mem_cons_self,flat_len fun q hq => h q (List.mem_cons_of_mem _ hq)]
    omega
noncomputable def maxL (l :List Int) :Int :=l.foldl max 0
theorem foldl_max :∀ (l :List Int) (a :Int),(l.foldl max a = a ∨ l.foldl max a ∈ l) ∧ a ≤ l.foldl max a ∧ ∀ b ∈ l,b ≤ l.foldl max a
  | [],a => ⟨Or.inl rfl,Int.le_refl _,fun _ h => nomatch h⟩
  | x :: l,a => by
    obtain ⟨h1,h2,h3⟩ :_ :=foldl_max l (max a x)
    rw [List.foldl_cons]
    refine ⟨?_,by omega,fun b hb => ?_⟩
    · rcases h1 with h1 | h1
      · rw [h1]
        by_cases h :a ≤ x
        · rw [Int.max_eq_right h]; exact Or.inr List.mem_cons_self
        · rw [Int.max_eq_left (by omega)]; exact Or.inl rfl
      · exact Or.inr (List.mem_cons_of_mem _ h1)
    · rcases List.mem_cons.mp hb with rfl | hb
      · omega
      · exact h3 b hb
theorem max_is {l :List Int} {M :Int} (h :M ∈ [0] ++ l) (hb :∀ a ∈ [0] ++ l,a ≤ M) :M = maxL l :=by
  obtain ⟨h1,h2,h3⟩ :_ :=foldl_max l 0
  unfold maxL
  have g0 :=hb 0 List.mem_cons_self
  have g1 :l.foldl max 0 ≤ M :=by
    rcases h1 with h1 | h1
    · omega
    · exact hb _ (List.mem_append_right _ h1)
  rcases List.mem_cons.mp h with rfl | h
  · omega
  · have :=h3 M h
    omega
noncomputable def blocksF (f :Nat → Option Ent) :List Int :=(rowsF f).flatMap fun r => r.2.map
theorem Prs.blocks {f :Nat → Option Ent} {qs :List PR} (h :Prs f 8 qs) :(qs.flatMap fun p => p.e.map) = blocksF f :=by
  unfold blocksF
  rw [← h.rows8,List.flatMap_map]
section
variable (w dp un fr gd s mg mb G news a vs D)
noncomputable abbrev last_block_ok_Q (l n :Nat) (ws :List Value) (ps :List Int) (u :Int) (t :Tok) :Prop :=∀ (gh :GH w mg mb G) (st :Stay G s.heap) (hn :HN G s.heap news) (lv :Lv dp un 8) (dm :DM w.params a vs D news) (q1 :(l,listOf ws.toArray n) ∈ news) (qI :IntsAre ws ps) (ql :ps.length = 11) (hu :u ≠ 229),wpAny (model rw_tg0048_01.row.prog w) (AR dp un fr gd) (call (.ref 321) [.ref a.d,.int u t,.ref l]) (RetG s news (IsI (maxL (blocksF (findF D u ps))))) (fun _ _ => False) s
end
theorem last_block_ok_L :∀ w dp un fr gd s mg mb G news a vs D l n ws ps u t,last_block_ok_Q w dp un fr gd s mg mb G news a vs D l n ws ps u t :=by
  intro w dp un fr gd s mg mb G news a vs D l n ws ps u t
  delta last_block_ok_Q
  intro gh st hn lv dm q1 qI ql hu
  have dm0 :=dm
  obtain ⟨m1,m2,m3,m4,hI,hl⟩ :=dm
  cell_enter
  k_steps
  rename Fr _ _ _ _ => F1
  rename News _ _ _ _ => N1
  rename Prs _ _ _ => hP
  rename Apart _ _ => hsep
  rename List PR => qs
  have lq :=hP.len
  generalize hled :(_ :: (flat w.params _ ++ _) :List (Addr × Obj)) = led at N1
  have in0 :=head_in hled
  have in1 :∀ p ∈ qs,∀ q ∈ one w.params p,q ∈ led :=fun p hp q hq => by rw [← hled]; exact List.mem_cons_of_mem _ (List.mem_append_left _ (flat_mem hp hq))
  refine ⟨_,_,qs,led,rfl,F1,N1,in0,fun p hp => in1 p hp _ List.mem_cons_self,lq,fun p hp => ⟨in1 p hp _ (by simp),?_⟩,?_,?_⟩
  · have :=(hP.ok p hp).hm.length
    have :=(hP.ok p hp).lm
    omega
  · intro p C oC D ys m₂ s' news' E' hp hC h1 h2 hs' F N
    have f2 :(p.x.e,instObj 74 p.x.ed) ∈ news' :=hs' _ (in1 p hp _ (by simp))
    have f3 :(p.x.ed,dictOf (entD w.params p.x p.e.user p.e.ext p.e.sp p.e.ct) 6) ∈ news' :=hs' _ (in1 p hp _ (by simp))
    clear F1 N1
    k_steps
    exact outL (by assumption) (by assumption) rfl
  · intro Dl h tk F N o1
    clear F1 N1
    obtain ⟨in2,in3⟩ :=mid_in hled
    generalize htk :Value.int 0 _ = z0 at in2
    have hz :IntsAre [z0] [0] :=htk ▸ .cons 0 _ .nil
    clear hled htk hsep
    have hf :=ints_flat fun p hp => (hP.ok p hp).hm
    have lf :=hf.length
    have hB :=hP.blocks
    have lb :=flat_len fun p hp => (hP.ok p hp).lm
    unfold LCg.lst at N
    generalize qs.flatMap PR.ms = bv at N hf lf
    generalize (qs.flatMap fun p => p.e.map) = bl at hf lf lb hB
    have hs :=ints_app hz hf
    k_steps
    rename_i hM hMb
    have hx :=max_is hM hMb
    rw [hB] at hx
    refine retG0 (by k_asm) (by k_asm) (by assumption) (by assumption) (fun q hq => List.mem_cons_of_mem _ (List.mem_cons_of_mem _ (in3 q hq))) ⟨rfl,_,congrArg (fun z => Value.int z _) hx⟩
theorem last_block_ok {l n :Nat} {ws :List Value} {ps :List Int} {u :Int} {t :Tok} :last_block_ok_Q w dp un fr gd s mg mb G news a vs D l n ws ps u t :=last_block_ok_L w dp un fr gd s mg mb G news a vs D l n ws ps u t
theorem usedL_length {D :List Int} :(usedL D).length = 11 :=by
  unfold usedL
  rw [markAll_length]
  rfl
theorem nearest_some {l n k i :Nat} {t :Tok} {ws :List Value} {bs :List Bool} (gh :GH w mg mb G) (st :Stay G s.heap) (hn :HN G s.heap news) (lv :Lv dp un 8) (q1 :(l,listOf ws.toArray n) ∈ news) (hb :LSm.BoolsAre ws bs) (hl :bs.length = 11) (hk :k ≤ 10) (hi :nearF bs 30 k k = some i) :
    wpAny (model rw_tg0048_01.row.prog w) (AR dp un fr gd) (call (.ref 207) [.ref l,.int (k :Nat) t]) (RetG s news (IsI (i :Nat))) (fun _ _ => False) s :=by
  have h :=nearest_ok (w :=w) (dp :=dp) (un :=un) (fr :=fr) (gd :=gd) (t :=t) gh st hn lv q1 hb hl hk
  rw [hi] at h
  exact h
local macro_rules | `(tactic| kst_all) => `(tactic| k_extra "kst_all11")
theorem kw82 :True :=by
  (k_with "kst_all11" => ((intro x9 ws9 n9 h9 tk9 F9 N9 hI9 lt9; (have o9 :=off1_of lt9); (try dsimp only [LCg.Off1] at o9); (try dsimp only); (try k_fold))))
  (k_with "q27" => ((refine useBL (used_blocks_ok (by assumption) (by ktr_unf) (by ktr_units) (by ktr_room) (by tb_rel)) (by k_asm) (by k_asm) ?_; kst_all)))
  (k_with "mcall ref" => (((with_reducible show wpAny _ _ (call (.ref 188) _) _ _ _); first | k_extra "q27" | k_dflt (k_extra "q27"))))
  (k_with "q28" => ((refine useI (nearest_some (by assumption) (by ktr_unf) (by ktr_units) (by ktr_room) (by k_mem) (by assumption) usedL_length (by omega) (by assumption)) (by k_asm) (by k_asm) ?_; kst_same)))
  (k_with "mcall ref" => (((with_reducible show wpAny _ _ (call (.ref 207) _) _ _ _); first | k_extra "q28" | k_dflt (k_extra "q28"))))
  trivial
section
variable (w dp un fr gd s mg mb G news a vs D)
noncomputable abbrev allocate_nat_Q (k i :Nat) (t :Tok) :Prop :=∀ (gh :GH w mg mb G) (st :Stay G s.heap) (hn :HN G s.heap news) (lv :Lv dp un 9) (dm :DM w.params a vs D news) (hk :k ≤ 10) (hi :nearF (usedL D) 30 k k = some i),wpAny (model rw_tg0048_01.row.prog w) (AR dp un fr gd) (call (.ref 214) [.ref a.d,.int (k :Nat) t]) (RetG s news (IsI (i :Nat))) (fun _ _ => False) s
end
theorem allocate_nat_L :∀ w dp un fr gd s mg mb G news a vs D k i t,allocate_nat_Q w dp un fr gd s mg mb G news a vs D k i t :=by
  intro w dp un fr gd s mg mb G news a vs D k i t
  delta allocate_nat_Q
  intro gh st hn lv dm hk hi
  cell_enter
  k_steps
  tb_start
  exact ⟨rfl,_,rfl⟩
theorem allocate_nat {k i :Nat} {t :Tok} :allocate_nat_Q w dp un fr gd s mg mb G news a vs D k i t :=allocate_nat_L w dp un fr gd s mg mb G news a vs D k i t
theorem allocate_ok {k :Int} {i :Nat} {t :Tok} (gh :GH w mg mb G) (st :Stay G s.heap) (hn :HN G s.heap news) (lv :Lv dp un 9) (dm :DM w.params a vs D news) (h0 :0 ≤ k) (hk :k ≤ 10) (hi :nearF (usedL D) 30 k.toNat k.toNat = some i) :
    wpAny (model rw_tg0048_01.row.prog w) (AR dp un fr gd) (call (.ref 214) [.ref a.d,.int k t]) (RetG s news (IsI (i :Nat))) (fun _ _ => False) s :=by
  obtain ⟨j,rfl⟩ :_ :=Int.eq_ofNat_of_zero_le h0
  exact allocate_nat gh st hn lv dm (by omega) hi
end
theorem kw83 :True :=by
  (k_with "mRangeRest" => (refine toStop ?_))
  (k_with "mcall ref" => (refine toStop ?_))
  (k_with "meval ListComp" => (refine toStop ?_))
  (k_with "mexec For Tuple Call" => (refine toStop ?_))
  (k_with "msetItem ref int" => (refine toStop ?_))
  trivial
end
section
section
theorem kw84 :True :=by
  (k_with "msetItem ref int" => (k_extra "r8"))
  (k_with "mRangeRest" => (refine Wait.h ?_))
  (k_with "mexec For Tuple Call" => (k_extra "r6"))
  trivial
noncomputable def recordF (D :List Int) (b r :Int) :List Int :=(D.drop (128 * b.toNat + 32 * r.toNat)).take 32
noncomputable def slotF (e :Ent) (j :Int) :Int :=e.map.getD (j / 4).toNat 0
noncomputable def readRow (D :List Int) (e :Ent) (j :Int) :Option (List Int) :=if e.ct ≤ j then none else if slotF e j = 0 then none else some (recordF D (slotF e j) (j % 4))
noncomputable def readF (D :List Int) (u :Int) (ps :List Int) (i :Int) :Option (List Int) :=
  match firstX (findF D u ps) (i / 64) with
  | none => none
  | some row => readRow D row.2 (i % 64)
theorem find_extent_none {l n :Nat} {ws :List Value} {ps :List Int} {u ext :Int} {t t' :Tok} (gh :GH w mg mb G) (st :Stay G s.heap) (hn :HN G s.heap news) (lv :Lv dp un 7) (dm :DM w.params a vs D news) (q1 :(l,listOf ws.toArray n) ∈ news) (qI :IntsAre ws ps) (ql :ps.length = 11) (hu :u ≠ 229) (hx :firstX (findF D u ps) ext = none) :
    wpAny (model rw_tg0048_01.row.prog w) (AR dp un fr gd) (call (.ref 266) [.ref a.d,.int u t,.ref l,.int ext t']) (RetG s news IsN) (fun _ _ => False) s :=by
  have h :=find_extent_ok (w :=w) (dp :=dp) (un :=un) (fr :=fr) (gd :=gd) (t :=t) (t' :=t') (ext :=ext) gh st hn lv dm q1 qI ql hu
  rw [hx] at h
  exact h
theorem find_extent_some {l n :Nat} {ws :List Value} {ps :List Int} {u ext :Int} {t t' :Tok} {row :Nat × Ent} (gh :GH w mg mb G) (st :Stay G s.heap) (hn :HN G s.heap news) (lv :Lv dp un 7) (dm :DM w.params a vs D news) (q1 :(l,listOf ws.toArray n) ∈ news) (qI :IntsAre ws ps) (ql :ps.length = 11) (hu :u ≠ 229) (hx :firstX (findF D u ps) ext = some row) :
    wpAny (model rw_tg0048_01.row.prog w) (AR dp un fr gd) (call (.ref 266) [.ref a.d,.int u t,.ref l,.int ext t']) (RetG s news (IsOne w.params row)) (fun _ _ => False) s :=by
  have h :=find_extent_ok (w :=w) (dp :=dp) (un :=un) (fr :=fr) (gd :=gd) (t :=t) (t' :=t') (ext :=ext) gh st hn lv dm q1 qI ql hu
  rw [hx] at h
  exact h
local macro_rules | `(tactic| kst_allNe) => `(tactic| k_extra "kst_allNe12")
theorem kw85 :True :=by
  (k_with "kst_allNe12" => ((intro r9 tl9 h9 tk9 hP9 F9 N9 lt9; obtain ⟨p9,e1,e2,ok9,er9⟩ :=hP9; subst e1; subst e2; subst er9; (try dsimp only [List.cons_append,List.nil_append] at N9); (have s9 :Apart _ _ :=lt9); (have f5 :=PR.Ok.hm ok9); (have f6 :=PR.Ok.lm ok9); (have f7 :=IntsAre.length f5); (try dsimp only); (try k_fold))))
  (k_with "q29" => ((refine useI2 (place_of_ok (by assumption) (by ktr_unf) (by ktr_units) (by ktr_room) (by tb_rel) (by assumption) (by assumption)) (by k_asm) (by k_asm) ?_; kst_all)))
  (k_with "mcall ref" => (((with_reducible show wpAny _ _ (call (.ref 316) _) _ _ _); first | k_extra "q29" | k_dflt (k_extra "q29"))))
  (k_with "q30" => ((refine useV (find_extent_none (by assumption) (by ktr_unf) (by ktr_units) (by ktr_room) (by tb_rel) (by k_mem) (by assumption) (by assumption) (by assumption) (by assumption)) (by k_asm) (by k_asm) ?_; kst_mem)))
  (k_with "mcall ref" => (((with_reducible show wpAny _ _ (call (.ref 266) _) _ _ _); first | k_extra "q30" | k_dflt (k_extra "q30"))))
  trivial
section
variable (w dp un fr gd s mg mb G news a vs D)
noncomputable abbrev read_at_none_Q (l n :Nat) (ws :List Value) (ps :List Int) (u i :Int) (t t' :Tok) :Prop :=∀ (gh :GH w mg mb G) (st :Stay G s.heap) (hn :HN G s.heap news) (lv :Lv dp un 8) (dm :DM w.params a vs D news) (q1 :(l,listOf ws.toArray n) ∈ news) (qI :IntsAre ws ps) (ql :ps.length = 11) (hu :u ≠ 229) (i0 :0 ≤ i) (i1 :i < 140) (hx :firstX (findF D u ps) (i / 64) = none),wpAny (model rw_tg0048_01.row.prog w) (AR dp un fr gd) (call (.ref 328) [.ref a.d,.int u t,.ref l,.int i t']) (RetG s news IsN) (fun _ _ => False) s
end
theorem read_at_none_L :∀ w dp un fr gd s mg mb G news a vs D l n ws ps u i t t',read_at_none_Q w dp un fr gd s mg mb G news a vs D l n ws ps u i t t' :=by
  intro w dp un fr gd s mg mb G news a vs D l n ws ps u i t t'
  delta read_at_none_Q
  intro gh st hn lv dm q1 qI ql hu i0 i1 hx
  cell_enter
  k_steps
  tb_start
  exact ⟨rfl,rfl⟩
theorem read_at_none {l n :Nat} {ws :List Value} {ps :List Int} {u i :Int} {t t' :Tok} :read_at_none_Q w dp un fr gd s mg mb G news a vs D l n ws ps u i t t' :=read_at_none_L w dp un fr gd s mg mb G news a vs D l n ws ps u i t t'
theorem kw86 :True :=by
  (k_with "q31" => ((refine useG (find_extent_some (by assumption) (by ktr_unf) (by ktr_units) (by ktr_room) (by tb_rel) (by k_mem) (by assumption) (by assumption) (by assumption) (by assumption)) (by k_asm) (by k_asm) ?_; kst_allNe)))
  (k_with "mcall ref" => (((with_reducible show wpAny _ _ (call (.ref 266) _) _ _ _); first | k_extra "q31" | k_dflt (k_extra "q31"))))
  (k_with "q32" => ((refine useI (records_of_block_ok (by assumption) (by ktr_unf) (by ktr_units) (by ktr_room) (by tb_rel)) (by k_asm) (by k_asm) ?_; kst_same)))
  (k_with "mcall ref" => (((with_reducible show wpAny _ _ (call (.ref 92) _) _ _ _); first | k_extra "q32" | k_dflt (k_extra "q32"))))
  (k_with "q33" => ((refine useIL (read_record_ok (by assumption) (by ktr_unf) (by ktr_units) (by ktr_room) (by tb_rel) (by assumption) (by assumption) (by assumption) (by assumption)) (by k_asm) (by k_asm) ?_; kst_facts)))
  (k_with "mcall ref" => (((with_reducible show wpAny _ _ (call (.ref 228) _) _ _ _); first | k_extra "q33" | k_dflt (k_extra "q33"))))
  trivial
theorem item_pair1 {prog :Program} {A :Around} {value slice :PySem.Expr} {T e :Addr} {i k :Int} {ti u :Tok} {g :Heap} {L :Addr} {led :List (Addr × Obj)} {Q :Value → Shared → Prop} {E :Value → Shared → Prop}
    (hk :k = 1) (N :News g L s.heap led) (hm :(T,tupOf [.int i ti,.ref e]) ∈ led) (h :Q (.ref e) s) (hs :subscripted slice false (.ref T) (.int k u) = operate [.ref T,.int k u] (getItem (.ref T) (.int k u)) :=by with_unfolding_all rfl) (hg :∀ r,letTemporaryGo value (.ref T) r = pure () :=by intros _; with_unfolding_all rfl) :
    wpAny (model prog w) A (subscriptTail value slice (.ref T) (.int k u)) Q E s :=by
  subst hk
  exact item_tupleL (l :=[.int i ti,.ref e]) (j :=1) ⟨_,(N _ hm).1,rfl,_,rfl⟩ (by decide) (by decide) rfl rfl h hs hg
theorem kw87 :True :=by
  (k_with "msubscriptTail Name Constant ref int" => ((k_here; (k_dflt (refine item_pair1 rfl (by k_asm) (by k_mem) ?_)))))
  trivial
theorem getD_bound {l :List Int} (h :∀ b ∈ l,0 ≤ b ∧ b < 11) (k :Nat) :0 ≤ l.getD k 0 ∧ l.getD k 0 < 11 :=by
  by_cases hk :k < l.length
  · rw [List.getD_eq_getElem?_getD,List.getElem?_eq_getElem hk]
    exact h _ (List.getElem_mem hk)
  · rw [List.getD_eq_getElem?_getD,List.getElem?_eq_none (by omega)]
    decide
section
variable (w dp un fr gd s mg mb G news a vs D)
noncomputable abbrev read_at_low_Q (l n :Nat) (ws :List Value) (ps :List Int) (u i :Int) (t t' :Tok) (row :Nat × Ent) :Prop :=∀ (gh :GH w mg mb G) (st :Stay G s.heap) (hn :HN G s.heap news) (lv :Lv dp un 8) (dm :DM w.params a vs D news) (q1 :(l,listOf ws.toArray n) ∈ news) (qI :IntsAre ws ps) (ql :ps.length = 11) (hu :u ≠ 229) (i0 :0 ≤ i) (i1 :i < 140) (hx :firstX (findF D u ps) (i / 64) = some row) (hc :row.2.ct ≤ i % 64),wpAny (model rw_tg0048_01.row.prog w) (AR dp un fr gd) (call (.ref 328) [.ref a.d,.int u t,.ref l,.int i t']) (RetG s news IsN) (fun _ _ => False) s
end
theorem read_at_low_L :∀ w dp un fr gd s mg mb G news a vs D l n ws ps u i t t' row,read_at_low_Q w dp un fr gd s mg mb G news a vs D l n ws ps u i t t' row :=by
  intro w dp un fr gd s mg mb G news a vs D l n ws ps u i t t' row
  delta read_at_low_Q
  intro gh st hn lv dm q1 qI ql hu i0 i1 hx hc
  cell_enter
  k_steps
  tb_start
  exact ⟨rfl,rfl⟩
theorem read_at_low {l n :Nat} {ws :List Value} {ps :List Int} {u i :Int} {t t' :Tok} {row :Nat × Ent} :read_at_low_Q w dp un fr gd s mg mb G news a vs D l n ws ps u i t t' row :=read_at_low_L w dp un fr gd s mg mb G news a vs D l n ws ps u i t t' row
section
variable (w dp un fr gd s mg mb G news a vs D)
noncomputable abbrev read_at_zero_Q (l n :Nat) (ws :List Value) (ps :List Int) (u i :Int) (t t' :Tok) (row :Nat × Ent) :Prop :=∀ (gh :GH w mg mb G) (st :Stay G s.heap) (hn :HN G s.heap news) (lv :Lv dp un 8) (dm :DM w.params a vs D news) (q1 :(l,listOf ws.toArray n) ∈ news) (qI :IntsAre ws ps) (ql :ps.length = 11) (hu :u ≠ 229) (i0 :0 ≤ i) (i1 :i < 140) (hx :firstX (findF D u ps) (i / 64) = some row) (hc :¬ row.2.ct ≤ i % 64) (hz :row.2.map.getD ((i % 64).fdiv 4).toNat 0 = 0),wpAny (model rw_tg0048_01.row.prog w) (AR dp un fr gd) (call (.ref 328) [.ref a.d,.int u t,.ref l,.int i t']) (RetG s news IsN) (fun _ _ => False) s
end
theorem read_at_zero_L :∀ w dp un fr gd s mg mb G news a vs D l n ws ps u i t t' row,read_at_zero_Q w dp un fr gd s mg mb G news a vs D l n ws ps u i t t' row :=by
  intro w dp un fr gd s mg mb G news a vs D l n ws ps u i t t' row
  delta read_at_zero_Q
  intro gh st hn lv dm q1 qI ql hu i0 i1 hx hc hz
  have k0 :0 ≤ (i % 64).fdiv 4 :=by rw [Int.fdiv_eq_ediv_of_nonneg _ (by decide)]; omega
  have k1 :(i % 64).fdiv 4 < 16 :=by rw [Int.fdiv_eq_ediv_of_nonneg _ (by decide)]; omega
  cell_enter
  k_steps
  all_goals (try exact absurd hz (by assumption))
  · tb_start
    exact ⟨rfl,rfl⟩
theorem read_at_zero {l n :Nat} {ws :List Value} {ps :List Int} {u i :Int} {t t' :Tok} {row :Nat × Ent} :read_at_zero_Q w dp un fr gd s mg mb G news a vs D l n ws ps u i t t' row :=read_at_zero_L w dp un fr gd s mg mb G news a vs D l n ws ps u i t t' row
section
variable (w dp un fr gd s mg mb G news a vs D)
noncomputable abbrev read_at_full_Q (l n :Nat) (ws :List Value) (ps :List Int) (u i :Int) (t t' :Tok) (row :Nat × Ent) :Prop :=∀ (gh :GH w mg mb G) (st :Stay G s.heap) (hn :HN G s.heap news) (lv :Lv dp un 8) (dm :DM w.params a vs D news) (q1 :(l,listOf ws.toArray n) ∈ news) (qI :IntsAre ws ps) (ql :ps.length = 11) (hu :u ≠ 229) (i0 :0 ≤ i) (i1 :i < 140) (hx :firstX (findF D u ps) (i / 64) = some row) (hc :¬ row.2.ct ≤ i % 64) (hz :row.2.map.getD ((i % 64).fdiv 4).toNat 0 ≠ 0) (hb0 :0 ≤ row.2.map.getD ((i % 64).fdiv 4).toNat 0) (hb1 :row.2.map.getD ((i % 64).fdiv 4).toNat 0 < 11),wpAny (model rw_tg0048_01.row.prog w) (AR dp un fr gd) (call (.ref 328) [.ref a.d,.int u t,.ref l,.int i t']) (RetG s news (IsIL (recordF D (row.2.map.getD ((i % 64).fdiv 4).toNat 0) ((i % 64).fmod 4)))) (fun _ _ => False) s
end
theorem read_at_full_L :∀ w dp un fr gd s mg mb G news a vs D l n ws ps u i t t' row,read_at_full_Q w dp un fr gd s mg mb G news a vs D l n ws ps u i t t' row :=by
  intro w dp un fr gd s mg mb G news a vs D l n ws ps u i t t' row
  delta read_at_full_Q
  intro gh st hn lv dm q1 qI ql hu i0 i1 hx hc hz hb0 hb1
  have k0 :0 ≤ (i % 64).fdiv 4 :=by rw [Int.fdiv_eq_ediv_of_nonneg _ (by decide)]; omega
  have k1 :(i % 64).fdiv 4 < 16 :=by rw [Int.fdiv_eq_ediv_of_nonneg _ (by decide)]; omega
  have k2 :0 ≤ (i % 64).fmod 4 :=by rw [Int.fmod_eq_emod_of_nonneg _ (by decide)]; omega
  have k3 :(i % 64).fmod 4 < 4 :=by rw [Int.fmod_eq_emod_of_nonneg _ (by decide)]; omega
  cell_enter
  k_steps
  all_goals (try exact absurd (by assumption) hz)
  · ktr_step
    assumption
theorem read_at_full {l n :Nat} {ws :List Value} {ps :List Int} {u i :Int} {t t' :Tok} {row :Nat × Ent} :read_at_full_Q w dp un fr gd s mg mb G news a vs D l n ws ps u i t t' row :=read_at_full_L w dp un fr gd s mg mb G news a vs D l n ws ps u i t t' row
end
theorem kw88 :True :=by
  (k_with "mRangeRest" => (refine toStop ?_))
  (k_with "mcall ref" => (refine toStop ?_))
  (k_with "mexec For Tuple Call" => (refine toStop ?_))
  (k_with "msetItem ref int" => (refine toStop ?_))
  (k_with "msubscriptTail Name Constant ref int" => (refine toStop ?_))
  trivial
end
section
open PySem PySem.W PySem.Calls PySem.Spec PyProof.Rows
section
theorem execs_app (env :Env) (r :List Stmt) :∀ l :List Stmt,execs (l ++ r) env = (execs l env >>= fun f => match f with | .next => execs r env | f => pure f)
  | [] => by rw [execs_nil,pure_bind]; rfl
  | st :: l => by
    rw [List.cons_append,execs_cons,execs_cons,bind_assoc]
    congr 1
    funext f
    cases f with
    | next => exact execs_app env r l
    | ret v => exact (pure_bind _ _).symm
    | brk => exact (pure_bind _ _).symm
    | cont => exact (pure_bind _ _).symm
theorem wp_app {M :Model} {A :Around} {E :Value → Shared → Prop} {s :Shared} {env :Env} {l r :List Stmt} {Q :Flow → Shared → Prop} (P :Shared → Prop)
    (h :wpAny M A (execs l env) (fun f s' => match f with | .next => P s' | f => Q f s') E s) (k :∀ s',P s' → wpAny M A (execs r env) Q E s') :wpAny M A (execs (l ++ r) env) Q E s :=by
  rw [execs_app]
  refine wpAny_bind (wpAny_mono h (fun f s' hf => ?_) fun _ _ e => e)
  cases f with
  | next => exact k s' hf
  | ret v => exact wpAny_pure hf
  | brk => exact wpAny_pure hf
  | cont => exact wpAny_pure hf
noncomputable def MidW (P :Params) (s :Shared) (g :Heap) (L :Addr) (m₀ :Str → Option Value) (news :List (Addr × Obj)) (a :DA) (num :Nat) (e1 :Ent) (D1 :List Int) (i :Int) (s' :Shared) :Prop :=
  ∃ h tk,∃ p :PR,∃ vs1 :List Value,∃ vN te ti,s' = { s with heap :=h,toks :=tk } ∧ p.num = num ∧ p.e = e1 ∧ p.Ok ∧ (∀ r ∈ one P p,∀ q ∈ news,q.1 ≠ r.1) ∧ IntsAre vs1 D1 ∧ D1.length = 1408 ∧
    Fr g L h (fun z => if z = Str.ofString "pair" then some (.ref p.T) else if z = Str.ofString "number" then vN else if z = Str.ofString "index" then some (.int (i % 64) ti) else if z = Str.ofString "extent" then some (.int (i / 64) te) else m₀ z) ∧
    News g L h (one P p ++ (a.l,listOf vs1.toArray a.n) :: dropN a.l news)
theorem mid_split {prog :Program} {w :World} {A :Around} {E :Value → Shared → Prop} {s₀ s :Shared} {env :Env} {s1 s2 s3 s4 s5 :Stmt} {rest :List Stmt} {Q :Flow → Shared → Prop}
    {g :Heap} {L :Addr} {m₀ :Str → Option Value} {news :List (Addr × Obj)} {a :DA} {num :Nat} {e1 :Ent} {D1 :List Int} {i :Int} (F :Fr g L s.heap m₀)
    (head :wpAny (model prog w) A (execs [s1,s2,s3,s4,s5] env) (fun f s' => match f with | .next => MidW w.params s₀ g L m₀ news a num e1 D1 i s' | f => Q f s') E s)
    (tail :∀ s',MidW w.params s₀ g L m₀ news a num e1 D1 i s' → wpAny (model prog w) A (execs rest env) Q E s') :wpAny (model prog w) A (execs (s1 :: s2 :: s3 :: s4 :: s5 :: rest) env) Q E s :=
  wp_app (l :=[s1,s2,s3,s4,s5]) _ head tail
section
variable {x1 x2 :Str} {a b c d :Option Value} {m :Str → Option Value}
theorem fr_mid (n :x1 ≠ x2) :(fun y => if y = x1 then a else m y) = (fun z => if z = x1 then a else if z = x2 then m x2 else m z) :=by
  funext z
  by_cases h1 :z = x1
  · rw [if_pos h1,if_pos h1]
  · rw [if_neg h1,if_neg h1]
    by_cases h2 :z = x2
    · rw [if_pos h2,h2]
    · rw [if_neg h2]
theorem fr_mid2 :(fun y => if y = x1 then a else if y = x2 then b else if y = x1 then c else m y) = (fun z => if z = x1 then a else if z = x2 then b else m z) :=by
  funext z
  by_cases h1 :z = x1
  · rw [if_pos h1,if_pos h1]
  · simp only [if_neg h1]
end
theorem item_refs0 {prog :Program} {w :World} {A :Around} {s :Shared} {value slice :PySem.Expr} {F :Addr} {k :Int} {u :Tok} {g :Heap} {L :Addr} {led :List (Addr × Obj)} {p :PR} {qs :List PR} {n :Nat} {Q :Value → Shared → Prop} {E :Value → Shared → Prop}
    (hk :k = 0) (N :News g L s.heap led) (hm :(F,listOf (refs (p :: qs)).toArray n) ∈ led) (h :Q (.ref p.T) s) (hs :subscripted slice false (.ref F) (.int k u) = operate [.ref F,.int k u] (getItem (.ref F) (.int k u)) :=by with_unfolding_all rfl) (hg :∀ r,letTemporaryGo value (.ref F) r = pure () :=by intros _; with_unfolding_all rfl) :
    wpAny (model prog w) A (subscriptTail value slice (.ref F) (.int k u)) Q E s :=by
  subst hk
  exact item_listL (l :=refs (p :: qs)) ⟨_,(N _ hm).1,rfl,_,rfl⟩ (by decide) (by decide) rfl h hs hg
end
end
section
section
theorem kw89 :True :=by
  (k_with "msetItem ref int" => (k_extra "r8"))
  (k_with "mRangeRest" => (refine Wait.h ?_))
  (k_with "mexec For Tuple Call" => (k_extra "r6"))
  trivial
local macro_rules | `(tactic| kst_allNe) => `(tactic| k_extra "kst_allNe13")
theorem kw90 :True :=by
  (k_with "kst_allNe13" => ((intro r9 tl9 h9 tk9 hP9 F9 N9 lt9; obtain ⟨p9,e1,e2,ok9,er9⟩ :=hP9; subst e1; subst e2; subst er9; (try dsimp only [List.cons_append,List.nil_append] at N9); (have s9 :Apart _ _ :=lt9); (have f5 :=PR.Ok.hm ok9); (have f6 :=PR.Ok.lm ok9); (have f7 :=IntsAre.length f5); (try dsimp only); (try k_fold))))
  (k_with "msubscriptTail Name Constant ref int" => ((k_here; (k_dflt (refine item_pair1 rfl (by k_asm) (by k_mem) ?_)))))
  (k_with "mcall ref" => (((with_reducible show wpAny _ _ (call (.ref 316) _) _ _ _); first | k_extra "q29" | k_dflt (k_extra "q29"))))
  (k_with "mcall ref" => (((with_reducible show wpAny _ _ (call (.ref 266) _) _ _ _); first | k_extra "q30" | k_dflt (k_extra "q30"))))
  (k_with "mcall ref" => (((with_reducible show wpAny _ _ (call (.ref 266) _) _ _ _); first | k_extra "q31" | k_dflt (k_extra "q31"))))
  (k_with "mcall ref" => (((with_reducible show wpAny _ _ (call (.ref 113) _) _ _ _); first | k_extra "q7" | k_dflt (k_extra "q7"))))
  (k_with "q34" => (((fail_if_success (rename Prs _ _ _ => hzz)); refine useP (find_ok (by assumption) (by ktr_unf) (by ktr_units) (by ktr_room) (by tb_rel) (by k_mem) (by assumption) (by assumption) (by assumption)) (by k_asm) (by k_asm) ?_; kpc_obj)))
  (k_with "mcall ref" => (((with_reducible show wpAny _ _ (call (.ref 259) _) _ _ _); first | k_extra "q34" | k_dflt (k_extra "q34"))))
  (k_with "mcall ref" => (((with_reducible show wpAny _ _ (call (.ref 292) _) _ _ _); first | k_extra "q22" | k_dflt (k_extra "q22"))))
  trivial
theorem mid_news {P :Params} {p :PR} {g h :Heap} {L x :Addr} {o :Obj} {R news :List (Addr × Obj)} (N :News g L h (one P p ++ R)) (hR :∀ q ∈ news,q ∈ R) (hm :(x,o) ∈ news) :News g L h (one P p ++ (x,o) :: dropN x news) :=
  News.sub N fun q hq => by
    rcases List.mem_append.mp hq with hq | hq
    · exact List.mem_append_left _ hq
    · refine List.mem_append_right _ (hR q ?_)
      rcases List.mem_cons.mp hq with rfl | hq
      · exact hm
      · exact (mem_dropN.mp hq).1
theorem pn_ne :Str.ofString "pair" ≠ Str.ofString "number" :=by decide
noncomputable def IsFirst (P :Params) (row :Nat × Ent) (r :Value) (tl :List (Addr × Obj)) :Prop :=∃ F n,∃ q :PR,∃ qs,r = .ref F ∧ tl = (F,listOf (refs (q :: qs)).toArray n) :: one P q ∧ q.Ok ∧ q.row = row
theorem retG_sub {s s' :Shared} {news :List (Addr × Obj)} {P P' :Value → List (Addr × Obj) → Prop} {r :Value} (h :RetG s news P r s') (k :∀ tl,P r tl → ∃ tl',(∀ p ∈ tl',p ∈ tl) ∧ P' r tl') :RetG s news P' r s' :=by
  obtain ⟨h',tk,tl,e,st,ht,hP⟩ :_ :=h
  obtain ⟨tl',hs,hP'⟩ :_ :=k tl hP
  exact ⟨h',tk,tl',e,st,fun p hp => ht p (hs p hp),hP'⟩
theorem find_first {l n :Nat} {ws :List Value} {ps :List Int} {u :Int} {t :Tok} {row :Nat × Ent} {rest :List (Nat × Ent)} (gh :GH w mg mb G) (st :Stay G s.heap) (hn :HN G s.heap news) (lv :Lv dp un 6) (dm :DM w.params a vs D news) (q1 :(l,listOf ws.toArray n) ∈ news) (qI :IntsAre ws ps) (ql :ps.length = 11) (hu :u ≠ 229) (hx :rowsF (findF D u ps) = row :: rest) :
    wpAny (model rw_tg0048_01.row.prog w) (AR dp un fr gd) (call (.ref 259) [.ref a.d,.int u t,.ref l]) (RetG s news (IsFirst w.params row)) (fun _ _ => False) s :=by
  refine wpAny_mono (find_ok gh st hn lv dm q1 qI ql hu) (fun r s' hr => retG_sub hr ?_) fun _ _ e => e
  rintro tl ⟨F,n',qs,rfl,rfl,hP,_⟩
  have h8 :=hP.rows8
  rw [hx] at h8
  cases qs with
  | nil => cases h8
  | cons q qs =>
    rw [List.map_cons] at h8
    refine ⟨(F,listOf (refs (q :: qs)).toArray n') :: one w.params q,fun p hp => ?_,F,n',q,qs,rfl,rfl,hP.ok q List.mem_cons_self,(List.cons.inj h8).1⟩
    rcases List.mem_cons.mp hp with rfl | hp
    · exact List.mem_cons_self
    · exact List.mem_cons_of_mem _ (flat_mem List.mem_cons_self hp)
theorem exists_some {l n :Nat} {ws :List Value} {ps :List Int} {u :Int} {t :Tok} {row :Nat × Ent} {rest :List (Nat × Ent)} (gh :GH w mg mb G) (st :Stay G s.heap) (hn :HN G s.heap news) (lv :Lv dp un 7) (dm :DM w.params a vs D news) (q1 :(l,listOf ws.toArray n) ∈ news) (qI :IntsAre ws ps) (ql :ps.length = 11) (hu :u ≠ 229) (hx :rowsF (findF D u ps) = row :: rest) :
    wpAny (model rw_tg0048_01.row.prog w) (AR dp un fr gd) (call (.ref 273) [.ref a.d,.int u t,.ref l]) (RetG s news (IsB true)) (fun _ _ => False) s :=by
  have h :=exists_ok (w :=w) (dp :=dp) (un :=un) (fr :=fr) (gd :=gd) (t :=t) gh st hn lv dm q1 qI ql hu
  rw [hx] at h
  exact h
theorem item_refs0R {prog :Program} {A :Around} {value slice :PySem.Expr} {F :Addr} {k :Int} {u :Tok} {g :Heap} {L :Addr} {led :List (Addr × Obj)} {p :PR} {qs :List PR} {n :Nat} {Q :Value → Shared → Prop} {E :Value → Shared → Prop}
    (hk :k = 0) (N :News g L s.heap led) (hm :(F,listOf (refs (p :: qs)).toArray n) ∈ led) (h :Q (.ref p.T) s) (hs :subscripted slice false (.ref F) (.int k u) = operate [.ref F,.int k u] (getItem (.ref F) (.int k u)) :=by with_unfolding_all rfl) :
    wpAny (model prog w) A (subscriptTail value slice (.ref F) (.int k u)) Q E s :=by
  subst hk
  exact item_listR (items :=(refs (p :: qs)).toArray) ⟨_,(N _ hm).1,rfl,_,rfl⟩ (by decide) (by decide) (by simp) h hs
theorem item_pair1R {prog :Program} {A :Around} {value slice :PySem.Expr} {T e :Addr} {i k :Int} {ti u :Tok} {g :Heap} {L :Addr} {led :List (Addr × Obj)} {Q :Value → Shared → Prop} {E :Value → Shared → Prop}
    (hk :k = 1) (N :News g L s.heap led) (hm :(T,tupOf [.int i ti,.ref e]) ∈ led) (h :Q (.ref e) s) (hs :subscripted slice false (.ref T) (.int k u) = operate [.ref T,.int k u] (getItem (.ref T) (.int k u)) :=by with_unfolding_all rfl) :
    wpAny (model prog w) A (subscriptTail value slice (.ref T) (.int k u)) Q E s :=by
  subst hk
  exact item_tupleT (l :=[.int i ti,.ref e]) (j :=1) ⟨_,(N _ hm).1,rfl,_,rfl⟩ (by decide) (by decide) rfl rfl h hs
noncomputable def WRow (D :List Int) (u :Int) (ps :List Int) (i :Int) (num :Nat) (e1 :Ent) (D1 :List Int) :Prop :=
  (firstX (findF D u ps) (i / 64) = some (num,e1) ∧ D1 = D) ∨
  (firstX (findF D u ps) (i / 64) = none ∧ ∃ r0 rest r1 rest1,rowsF (findF D u ps) = r0 :: rest ∧ freeE D = some num ∧ D1 = lay D (32 * num) (entOcts (newE u r0.2.raw (i / 64))) ∧ rowsF (findF D1 u ps) = r1 :: rest1 ∧ e1 = newE u r1.2.raw (i / 64))
local macro_rules | `(tactic| kts_go) => `(tactic| k_extra "kts_go14")
theorem kw91 :True :=by
  (k_with "q35" => ((refine useV (exists_some (by assumption) (by ktr_unf) (by ktr_units) (by ktr_room) (by tb_rel) (by k_mem) (by assumption) (by assumption) (by assumption) (by assumption)) (by k_asm) (by k_asm) ?_; kst_mem)))
  (k_with "mcall ref" => (((with_reducible show wpAny _ _ (call (.ref 273) _) _ _ _); first | k_extra "q35" | k_dflt (k_extra "q35"))))
  (k_with "kts_go14" => ((intro r9 tl9 h9 tk9 hP9 F9 N9 lt9; obtain ⟨F9a,n9,p9,ps9,e1,e2,ok9,er9⟩ :=hP9; subst e1; subst e2; subst er9; (try dsimp only [List.cons_append,List.nil_append] at N9); (have s9 :Apart _ _ :=lt9); (have f5 :=PR.Ok.hw ok9); (have f6 :=PR.Ok.lw ok9); (try dsimp only); (try k_fold))))
  (k_with "q36" => (((rename Prs _ _ _ => hzz); refine useG (find_first (by assumption) (by ktr_unf) (by ktr_units) (by ktr_room) (by tb_rel) (by k_mem) (by assumption) (by assumption) (by assumption) (by assumption)) (by k_asm) (by k_asm) ?_; kts_go)))
  (k_with "mcall ref" => (((with_reducible show wpAny _ _ (call (.ref 259) _) _ _ _); first | k_extra "q36" | k_dflt (k_extra "q36"))))
  (k_with "msubscriptTail Call" => ((k_here; (k_dflt (refine item_refs0R rfl (by k_asm) (List.Mem.head _) ?_)))))
  (k_with "msubscriptTail Subscript" => ((k_here; (k_dflt (refine item_pair1R rfl (by k_asm) (List.Mem.tail _ (List.Mem.head _)) ?_)))))
  (k_with "mcall ref" => (((with_reducible show wpAny _ _ (call (Value.ref 287) _) _ _ _); refine Wait.h ?_)))
  trivial
theorem sub_drop2 {x :Addr} {o :Obj} {news R :List (Addr × Obj)} (h :∀ q ∈ news,q ∈ R) :∀ p ∈ (x,o) :: dropN x news,p ∈ (x,o) :: dropN x R :=fun p hp => by
  rcases List.mem_cons.mp hp with rfl | hp
  · exact List.mem_cons_self
  · have :=mem_dropN.mp hp
    exact List.mem_cons_of_mem _ (mem_dropN.mpr ⟨h p this.1,this.2⟩)
theorem freeE_lt {D :List Int} {k :Nat} (h :freeE D = some k) :k < 8 :=List.mem_range.mp (List.mem_of_find?_eq_some h)
theorem kw92 :True :=by
  (k_with "q37" => ((refine useE (new_entry_ok (by assumption) (by ktr_unf) (by ktr_units) (by ktr_room) (by tb_rel) (List.Mem.tail _ (List.Mem.tail _ (List.Mem.tail _ (List.Mem.head _)))) (by assumption) (by assumption)) (by k_asm) (by k_asm) ?_; kpc_g)))
  (k_with "mcall ref" => (((with_reducible show wpAny _ _ (call (.ref 120) _) _ _ _); first | k_extra "q37" | k_dflt (k_extra "q37"))))
  (k_with "mcall ref" => (((with_reducible show wpAny _ _ (call (Value.ref 235) _) _ _ _); refine Wait.h ?_)))
  (k_with "mcall ref" => (((with_reducible show wpAny _ _ (call (.ref 92) _) _ _ _); first | k_extra "q32" | k_dflt (k_extra "q32"))))
  trivial
theorem ite_y {c :Prop} [Decidable c] {P Q :Prop} (h :c) (p :P) :if c then P else Q :=by rw [if_pos h]; exact p
theorem ite_z {c :Prop} [Decidable c] {P Q :Prop} (h :¬ c) (q :Q) :if c then P else Q :=by rw [if_neg h]; exact q
theorem kw93 :True :=by
  (k_with "mite" => (first | with_reducible refine ite_t (by assumption) ?_ | with_reducible refine ite_f (by assumption) ?_ | with_reducible refine ite_y (by assumption) ?_ | with_reducible refine ite_z (by assumption) ?_))
  (k_with "mcall ref" => (((with_reducible show wpAny _ _ (call (Value.ref 321) _) _ _ _); refine Wait.h ?_)))
  (k_with "mcall ref" => (((with_reducible show wpAny _ _ (call (Value.ref 155) _) _ _ _); refine Wait.h ?_)))
  trivial
theorem as_ent {P :Params} {x :EA} {u ex sp ct ct' :Int} {tk :Tok} {g h :Heap} {L :Addr} {R :List (Addr × Obj)} (N :News g L h ((x.ed,dictOf [⟨PyData.keyHash P (Str.ofString "user"),.str (Str.ofString "user") x.k1,.int u x.t1⟩,
   ⟨PyData.keyHash P (Str.ofString "raw"),.str (Str.ofString "raw") x.k2,.ref x.rl⟩,
   ⟨PyData.keyHash P (Str.ofString "extent"),.str (Str.ofString "extent") x.k3,.int ex x.t3⟩,
   ⟨PyData.keyHash P (Str.ofString "spare"),.str (Str.ofString "spare") x.k4,.int sp x.t4⟩,
   ⟨PyData.keyHash P (Str.ofString "count"),.str (Str.ofString "count") x.k5,.int ct' tk⟩,
   ⟨PyData.keyHash P (Str.ofString "map"),.str (Str.ofString "map") x.k6,.ref x.ml⟩] 6) :: R)) (e :ct' = ct) :∃ tt,News g L h ((x.ed,dictOf (entD P { x with t5 :=tt } u ex sp ct) 6) :: R) :=⟨tk,e ▸ N⟩
theorem max_if {x y :Int} [Decidable (y > x)] :(if y > x then y else x) = max x y :=by
  by_cases h :y > x
  · rw [if_pos h]; omega
  · rw [if_neg h]; omega
noncomputable def WSlot (D1 :List Int) (u :Int) (ps :List Int) (e1 :Ent) (q b :Int) (mp :List Int) :Prop :=
  (e1.map.getD q.toNat 0 ≠ 0 ∧ b = e1.map.getD q.toNat 0 ∧ mp = e1.map) ∨
  (e1.map.getD q.toNat 0 = 0 ∧ 0 ≤ maxL (blocksF (findF D1 u ps)) ∧ maxL (blocksF (findF D1 u ps)) ≤ 10 ∧ (∃ k :Nat,nearF (usedL D1) 30 (maxL (blocksF (findF D1 u ps))).toNat (maxL (blocksF (findF D1 u ps))).toNat = some k ∧ b = (k :Nat)) ∧ mp = e1.map.set q.toNat b)
theorem kw94 :True :=by
  (k_with "msetItem ref int" => (refine Wait.h ?_))
  (k_with "q38" => ((refine useI (allocate_ok (by assumption) (by ktr_unf) (by ktr_units) (by ktr_room) (by tb_rel) (by assumption) (by assumption) (by assumption)) (by k_asm) (by k_asm) ?_; kst_same)))
  (k_with "mcall ref" => (((with_reducible show wpAny _ _ (call (.ref 214) _) _ _ _); first | k_extra "q38" | k_dflt (k_extra "q38"))))
  trivial
section
variable (w dp un fr gd s mg mb G news a vs D)
noncomputable abbrev write_at_ok_Q (l n l2 n2 :Nat) (ws us :List Value) (ps os :List Int) (u i :Int) (t t' :Tok) (num :Nat) (e1 :Ent) (D1 :List Int) (b :Int) (mp DF :List Int) :Prop :=∀ (gh :GH w mg mb G) (st :Stay G s.heap) (hn :HN G s.heap news) (lv :Lv dp un 12) (dm :DM w.params a vs D news) (q1 :(l,listOf ws.toArray n) ∈ news) (qI :IntsAre ws ps) (ql :ps.length = 11) (r1 :(l2,listOf us.toArray n2) ∈ news) (rI :IntsAre us os) (rl :os.length = 32) (hu :u ≠ 229) (i0 :0 ≤ i) (i1 :i < 140) (hf :∀ r ∈ rowsF (findF D u ps),r.2.raw.getD 8 0 < 128) (hrow :WRow D u ps i num e1 D1) (hslot :WSlot D1 u ps e1 ((i % 64).fdiv 4) b mp) (b0 :0 ≤ b) (b1 :b < 11) (hct :0 ≤ e1.ct ∧ e1.ct < 256) (hDF :DF = lay (lay D1 (128 * b.toNat + 32 * ((i % 64).fmod 4).toNat) os) (32 * num) (entOcts { e1 with map :=mp,ct :=max e1.ct (i % 64 + 1) })),wpAny (model rw_tg0048_01.row.prog w) (AR dp un fr gd) (call (.ref 335) [.ref a.d,.int u t,.ref l,.int i t',.ref l2]) (MutG s news a.l (Lays a.n DF)) (fun _ _ => False) s
end
theorem write_at_ok_L :∀ w dp un fr gd s mg mb G news a vs D l n l2 n2 ws us ps os u i t t' num e1 D1 b mp DF,write_at_ok_Q w dp un fr gd s mg mb G news a vs D l n l2 n2 ws us ps os u i t t' num e1 D1 b mp DF :=by
  intro w dp un fr gd s mg mb G news a vs D l n l2 n2 ws us ps os u i t t' num e1 D1 b mp DF
  delta write_at_ok_Q
  intro gh st hn lv dm q1 qI ql r1 rI rl hu i0 i1 hf hrow hslot b0 b1 hct hDF
  have dm0 :=dm
  obtain ⟨m1,m2,m3,m4,hI,hl⟩ :=dm
  have lw9 :=qI.length
  have lu9 :=rI.length
  have lv9 :=hI.length
  cell_enter
  rename Fr _ _ _ _ => F0
  rename News _ _ _ _ => N0
  have k1 :=in_drop N0 m1 m4 inst_list
  have k2 :=in_drop N0 m2 m4 dict_list'
  have k3 :=in_drop N0 m3 m4 (list_ne (by simp; omega))
  have kq :=in_drop N0 q1 m4 (list_ne (by omega))
  have kr :=in_drop N0 r1 m4 (list_ne (by omega))
  refine mid_split (a :=a) (num :=num) (e1 :=e1) (D1 :=D1) (i :=i) (s₀ :=s) (news :=news) F0 ?_ ?_
  · rcases hrow with hr9 | hr9
    · obtain ⟨hx,rfl⟩ :=hr9
      generalize hre :(num,e1) = row at hx
      k_steps
      with_reducible rename Apart _ _ => hs9
      exact ⟨_,_,_,vs,_,_,_,rfl,(congrArg Prod.fst hre).symm,(congrArg Prod.snd hre).symm,by assumption,fun r hr q hq => hs9 r hr q (List.mem_cons_of_mem _ (List.mem_cons_of_mem _ (List.mem_append_right _ hq))),hI,hl,fr_eq (by k_asm) (fr_mid pn_ne),mid_news (R :=_ :: _ :: (flat w.params _ ++ news)) (by k_asm) (by ktr_rel) m4⟩
    · obtain ⟨hx,r0,rest,r1',rest1,h0,h1,hD,h2,he⟩ :=hr9
      k_steps
      refine ⟨?_⟩
      refine useM (o₀ :=listOf vs.toArray a.n) (make_extent_ok (by assumption) (by ktr_unf) (by ktr_units) (by ktr_room) (by tb_rel) (List.Mem.tail _ (List.Mem.tail _ (List.Mem.tail _ (List.Mem.head _)))) (by assumption) (by assumption) h1) (by k_asm) (by k_asm) (by k_mem) ?_
      intro r9z tl9z ob9z h9z tk9z hP9z F9z N9z lt9z
      obtain ⟨he9,e2,ws9z,e3,hI9z⟩ :=hP9z
      obtain ⟨t9z,e1'⟩ :=he9
      subst e1' e2 e3
      simp only [List.nil_append] at N9z
      have hI10 :IntsAre ws9z D1 :=by rw [hD]; exact hI9z
      have lD1 :D1.length = 1408 :=by
        have :=freeE_lt h1
        rw [hD,lay_length,hl]
        simp only [entOcts,newE,List.length_append,List.length_cons,List.length_nil,List.length_replicate,PR.Ok.lw (by assumption),hl]
        omega
      have N10 :=News.sub N9z (sub_drop2 (o :=listOf ws9z.toArray a.n) (by ktr_rel :∀ q ∈ news,q ∈ _))
      have dm1 :DM w.params a ws9z D1 ((a.l,listOf ws9z.toArray a.n) :: dropN a.l news) :=⟨List.mem_cons_of_mem _ k1,List.mem_cons_of_mem _ k2,List.mem_cons_of_mem _ k3,List.mem_cons_self,hI10,lD1⟩
      clear N9z lt9z dm0 hI9z
      clear m1 m2 m3
      k_steps
      with_reducible rename Apart _ _ => hs9
      rename And _ _ => lD'
      obtain ⟨_,_,_,_,_,_,_,_,_,_,la',lR'⟩ :=lD'
      rename EA => xE
      rename EOrd _ => odE
      rename IntsAre _ (Ent.map _) => hmE
      rename IntsAre _ (Ent.raw _) => hwE
      refine ⟨_,_,⟨_,num,t9z,xE,_,_,_⟩,ws9z,_,_,_,rfl,rfl,he.symm,⟨hwE,hmE,by assumption,rfl,freeE_lt h1,odE⟩,fun r hr q hq => ?_,hI10,lD1,fr_eq (by k_asm) fr_mid2,News.sub (by k_asm) (fun q hq => ?_)⟩
      · have inL :q.1 ≠ a.l → q ∈ dropN a.l news :=fun h => mem_dropN.mpr ⟨hq,h⟩
        rcases List.mem_cons.mp hr with rfl | hr
        · by_cases hqa :q.1 = a.l
          · exact Nat.ne_of_lt (by rw [hqa]; exact la')
          · exact Nat.ne_of_lt (allLt lR' q (inL hqa))
        · by_cases hqa :q.1 = a.l
          · rw [hqa]
            exact hs9 r hr (a.l,listOf ws9z.toArray a.n) (by k_mem)
          · exact hs9 r hr q ((by ktr_rel :∀ q ∈ dropN a.l news,q ∈ _) q (inL hqa))
      rcases List.mem_append.mp hq with h | h
      · exact List.mem_append_left _ h
      · exact (by ktr_rel :∀ q ∈ (a.l,listOf ws9z.toArray a.n) :: dropN a.l news,q ∈ _) q h
  · (intro s'; rintro ⟨h,tk,p,vs1,vN,te,ti,rfl,rfl,rfl,okp,hap,hI1,lD1,F1,N1⟩)
    clear F0
    have j0 :0 ≤ i % 64 :=by omega
    have j1 :i % 64 < 64 :=by omega
    generalize i % 64 = j at j0 j1 F1 hslot hDF ⊢
    have s0 :0 ≤ j.fdiv 4 :=by rw [Int.fdiv_eq_ediv_of_nonneg _ (by decide)]; omega
    have s1 :j.fdiv 4 < 16 :=by rw [Int.fdiv_eq_ediv_of_nonneg _ (by decide)]; omega
    have s2 :0 ≤ j.fmod 4 :=by rw [Int.fmod_eq_emod_of_nonneg _ (by decide)]; omega
    have s3 :j.fmod 4 < 4 :=by rw [Int.fmod_eq_emod_of_nonneg _ (by decide)]; omega
    have nm :=okp.nm
    have hmE :=okp.hm
    have lmE :=okp.lm
    have lvE :=hmE.length
    have g0 :∀ q ∈ one w.params p,q ∈ one w.params p ++ (a.l,listOf vs1.toArray a.n) :: dropN a.l news :=fun q hq => List.mem_append_left _ hq
    have gR :∀ q ∈ dropN a.l news,q ∈ one w.params p ++ (a.l,listOf vs1.toArray a.n) :: dropN a.l news :=fun q hq => List.mem_append_right _ (List.mem_cons_of_mem _ hq)
    have gl :(a.l,listOf vs1.toArray a.n) ∈ one w.params p ++ (a.l,listOf vs1.toArray a.n) :: dropN a.l news :=List.mem_append_right _ List.mem_cons_self
    have hed :(p.x.ed,dictOf (entD w.params p.x p.e.user p.e.ext p.e.sp p.e.ct) 6) ∈ one w.params p ++ (a.l,listOf vs1.toArray a.n) :: dropN a.l news :=g0 _ (by simp)
    have N2 :=News.first N1 hed
    have f1 :=in_drop N1 (g0 (p.T,tupOf [.int (p.num :Nat) p.tn,.ref p.x.e]) (by simp)) hed dict_tup
    have f2 :=in_drop N1 (g0 (p.x.e,instObj 74 p.x.ed) (by simp)) hed dict_inst
    have f3 :=in_drop N1 (g0 (p.x.rl,listOf p.ws.toArray p.x.rn) (by simp)) hed list_dict
    have f4 :=in_drop N1 (g0 (p.x.ml,listOf p.ms.toArray p.x.mn) (by simp)) hed list_dict
    have c1 :=in_drop N1 (gR _ k1) hed dict_inst
    have c2 :=in_drop N1 (gR _ k2) hed (dict_ne (by decide))
    have c3 :=in_drop N1 (gR _ k3) hed list_dict
    have c4 :=in_drop N1 gl hed list_dict
    have c5 :=in_drop N1 (gR _ kq) hed list_dict
    have c6 :=in_drop N1 (gR _ kr) hed list_dict
    have cR :∀ q ∈ dropN a.l news,q.1 ≠ p.x.ed → q ∈ dropN p.x.ed (one w.params p ++ (a.l,listOf vs1.toArray a.n) :: dropN a.l news) :=fun q hq h => mem_dropN.mpr ⟨gR q hq,h⟩
    have R0 :∀ q ∈ dropN p.x.ed (one w.params p ++ (a.l,listOf vs1.toArray a.n) :: dropN a.l news),q.1 ≠ p.x.ed :=dropN_ne
    generalize hR :dropN p.x.ed (one w.params p ++ (a.l,listOf vs1.toArray a.n) :: dropN a.l news) = R at N2 f1 f2 f3 f4 c1 c2 c3 c4 c5 c6 cR R0
    have dm1 :DM w.params a vs1 D1 R :=⟨c1,c2,c3,c4,hI1,lD1⟩
    clear dm0 m1 m2 m3 N1 g0 gR gl hed
    rcases hslot with hs9 | hs9
    · obtain ⟨hz,rfl,rfl⟩ :=hs9
      have hzb :decide (p.e.map.getD (j.fdiv 4).toNat 0 = 0) = false :=decide_eq_false hz
      k_steps
      all_goals (try exact absurd (by assumption) hz)
      · refine ⟨?_⟩
        rename News _ _ _ _ => N8
        have hN8 :=as_ent (P :=w.params) (x :=p.x) (u :=p.e.user) (ex :=p.e.ext) (sp :=p.e.sp) (ct :=max p.e.ct (j + 1)) N8 max_if
        obtain ⟨tt,N9z⟩ :=hN8
        clear N8
        generalize hod :dictOf (entD w.params { p.x with t5 :=tt } p.e.user p.e.ext p.e.sp (max p.e.ct (j + 1))) 6 = od at N9z
        have hne :∀ (u :Array Value) (n :Nat),od ≠ listOf u n :=fun u n => hod ▸ dict_list'
        have dm2 :DM w.params a vs1 D1 ((p.x.ed,od) :: R) :=dm1.mono (fun q hq => List.mem_cons_of_mem _ hq)
        refine useM (o₀ :=listOf vs1.toArray a.n) (write_record_ok (by assumption) (by ktr_unf) (by ktr_units) (by ktr_room) (by tb_rel) (List.mem_cons_of_mem _ c6) rI rl b0 b1 s2 s3) (by k_asm) (by k_asm) (List.mem_cons_of_mem _ c4) ?_
        intro r9z tl9z ob9z h9z tk9z hP9z F9z N10 lt9z
        obtain ⟨e1',e2,ws9z,e3,hI9z⟩ :=hP9z
        subst e1' e2 e3
        simp only [List.nil_append] at N10
        have c4' :=List.mem_cons_of_mem (p.x.ed,od) c4
        have lv1 :=hI1.length
        have lwE :=okp.hw.length
        have lw1 :=okp.lw
        have y1 :=in_drop N9z (List.mem_cons_of_mem _ f2) c4' inst_list
        have y2 :=in_drop N9z (List.mem_cons_of_mem _ f3) c4' (list_ne (by omega))
        have y3 :=in_drop N9z (List.mem_cons_of_mem _ f4) c4' (list_ne (by omega))
        have y4 :=in_drop N9z List.mem_cons_self c4' (hne _ _)
        have y5 :=in_drop N9z (List.mem_cons_of_mem _ c1) c4' inst_list
        have y6 :=in_drop N9z (List.mem_cons_of_mem _ c2) c4' dict_list'
        have y7 :=in_drop N9z (List.mem_cons_of_mem _ c3) c4' (list_ne (by simp; omega))
        have yR :∀ q ∈ news,q.1 ≠ a.l → q ∈ dropN a.l ((p.x.ed,od) :: R) :=fun q hq h => mem_dropN.mpr ⟨List.mem_cons_of_mem _ (cR q (mem_dropN.mpr ⟨hq,h⟩) (hap (p.x.ed,dictOf (entD w.params p.x p.e.user p.e.ext p.e.sp p.e.ct) 6) (by simp) q hq)),h⟩
        subst hod
        generalize dropN a.l ((p.x.ed,dictOf (entD w.params { p.x with t5 :=tt } p.e.user p.e.ext p.e.sp (max p.e.ct (j + 1))) 6) :: R) = R2 at N10 y1 y2 y3 y4 y5 y6 y7 yR
        have lD2 :(lay D1 (128 * (p.e.map.getD (j.fdiv 4).toNat 0).toNat + 32 * (j.fmod 4).toNat) os).length = 1408 :=by rw [lay_length (by omega),lD1]
        have dm3 :DM w.params a ws9z _ ((a.l,listOf ws9z.toArray a.n) :: R2) :=⟨List.mem_cons_of_mem _ y5,List.mem_cons_of_mem _ y6,List.mem_cons_of_mem _ y7,List.mem_cons_self,hI9z,lD2⟩
        have em3 :EM w.params { p.x with t5 :=tt } { p.e with ct :=max p.e.ct (j + 1) } p.ws p.ms ((a.l,listOf ws9z.toArray a.n) :: R2) :=⟨List.mem_cons_of_mem _ y3,List.mem_cons_of_mem _ y2,List.mem_cons_of_mem _ y1,List.mem_cons_of_mem _ y4,okp.hw,okp.hm,okp.lw,okp.lm⟩
        clear N9z dm1 dm2 lt9z
        k_steps
        refine ⟨?_⟩
        refine useM (o₀ :=listOf ws9z.toArray a.n) (write_entry_ok (x :={ p.x with t5 :=tt }) (e :={ p.e with ct :=max p.e.ct (j + 1) }) (by assumption) (by ktr_unf) (by ktr_units) (by ktr_room) dm3 em3 (by omega) (by omega)) (by k_asm) (by k_asm) List.mem_cons_self ?_
        intro r8z tl8z ob8z h8z tk8z hP8z F8z N11 lt8z
        obtain ⟨e1',e2,ws8z,e3,hI8z⟩ :=hP8z
        subst e1' e2 e3
        simp only [List.nil_append] at N11
        k_steps
        refine mutG [] (by k_asm) (by k_asm) (by assumption) (by assumption) (fun q hq h => List.mem_cons_of_mem _ (mem_dropN.mpr ⟨List.mem_cons_of_mem _ (yR q hq h),h⟩)) List.mem_cons_self (fun _ h => nomatch h) (fun _ h => nomatch h) ⟨rfl,rfl,_,rfl,?_⟩
        rw [Int.toNat_natCast] at hI8z
        rw [hDF]
        exact hI8z
    · obtain ⟨hz,x0,x1,hk9,rfl⟩ :=hs9
      obtain ⟨k,hk,rfl⟩ :=hk9
      have hzb :decide (p.e.map.getD (j.fdiv 4).toNat 0 = 0) = true :=decide_eq_true hz
      k_steps
      all_goals (try exact absurd hz (by assumption))
      · refine ⟨?_⟩
        have dm2 :DM w.params a vs1 D1 ((p.x.ed,dictOf (entD w.params p.x p.e.user p.e.ext p.e.sp p.e.ct) 6) :: R) :=dm1.mono (fun q hq => List.mem_cons_of_mem _ hq)
        refine useI (last_block_ok (by assumption) (by ktr_unf) (by ktr_units) (by ktr_room) dm2 (List.mem_cons_of_mem _ c5) qI ql hu) (by k_asm) (by k_asm) ?_
        kst_same
        k_steps
        refine ⟨?_⟩
        rename News _ _ _ _ => N7
        refine set_first (by k_asm) N7 (List.mem_cons_of_mem _ f4) hmE (by omega) (by omega) (by omega) ?_
        intro h9z F9z N6 hm2
        have hl2 :=List.mem_cons_of_mem (p.x.ed,dictOf (entD w.params p.x p.e.user p.e.ext p.e.sp p.e.ct) 6) f4
        have lwE :=okp.hw.length
        have lw1 :=okp.lw
        have lv1 :=hI1.length
        have dsub :∀ q ∈ dropN p.x.ml R,q ∈ dropN p.x.ml ((p.x.ed,dictOf (entD w.params p.x p.e.user p.e.ext p.e.sp p.e.ct) 6) :: R) :=fun q hq => mem_dropN.mpr ⟨List.mem_cons_of_mem _ (mem_dropN.mp hq).1,(mem_dropN.mp hq).2⟩
        have NR :News _ _ _ R :=News.sub N7 (fun q hq => List.mem_cons_of_mem _ hq)
        have f1 :=in_drop NR f1 f4 tup_list
        have f2 :=in_drop NR f2 f4 inst_list
        have f3 :=in_drop NR f3 f4 (list_ne (by omega))
        have c1 :=in_drop NR c1 f4 inst_list
        have c2 :=in_drop NR c2 f4 dict_list'
        have c3 :=in_drop NR c3 f4 (list_ne (by simp; omega))
        have c4 :=in_drop NR c4 f4 (list_ne (by omega))
        have c5 :=in_drop NR c5 f4 (list_ne (by omega))
        have c6 :=in_drop NR c6 f4 (list_ne (by omega))
        have cR :∀ q ∈ dropN a.l news,q.1 ≠ p.x.ed → q ∈ dropN p.x.ml R :=fun q hq h => mem_dropN.mpr ⟨cR q hq h,hap (p.x.ml,listOf p.ms.toArray p.x.mn) (by simp) q (mem_dropN.mp hq).1⟩
        have edl :@Ne Nat p.x.ed p.x.ml :=Ne.symm (R0 _ f4)
        have R0 :∀ q ∈ dropN p.x.ml R,q.1 ≠ p.x.ed :=fun q hq => R0 q (mem_dropN.mp hq).1
        generalize hR3 :dropN p.x.ml R = R3 at f1 f2 f3 c1 c2 c3 c4 c5 c6 cR R0 dsub
        generalize hms2 :p.ms.set (j.fdiv 4).toNat (Value.int (k :Int) _) = ms2 at hm2 N6
        have N5 :News _ _ _ ((p.x.ed,dictOf (entD w.params p.x p.e.user p.e.ext p.e.sp p.e.ct) 6) :: (p.x.ml,listOf ms2.toArray p.x.mn) :: R3) :=News.sub N6 (fun q hq => by
          rcases List.mem_cons.mp hq with rfl | hq
          · exact List.mem_cons_of_mem _ (mem_dropN.mpr ⟨List.mem_cons_self,edl⟩)
          · rcases List.mem_cons.mp hq with rfl | hq
            · exact List.mem_cons_self
            · exact List.mem_cons_of_mem _ (dsub q hq))
        generalize hmp2 :p.e.map.set (j.fdiv 4).toNat (k :Int) = mp2 at hm2
        have lm2 :mp2.length = 16 :=by rw [← hmp2,List.length_set,lmE]
        have f4 :(p.x.ml,listOf ms2.toArray p.x.mn) ∈ (p.x.ml,listOf ms2.toArray p.x.mn) :: R3 :=List.mem_cons_self
        have f1 :=List.mem_cons_of_mem (p.x.ml,listOf ms2.toArray p.x.mn) f1
        have f2 :=List.mem_cons_of_mem (p.x.ml,listOf ms2.toArray p.x.mn) f2
        have f3 :=List.mem_cons_of_mem (p.x.ml,listOf ms2.toArray p.x.mn) f3
        have c1 :=List.mem_cons_of_mem (p.x.ml,listOf ms2.toArray p.x.mn) c1
        have c2 :=List.mem_cons_of_mem (p.x.ml,listOf ms2.toArray p.x.mn) c2
        have c3 :=List.mem_cons_of_mem (p.x.ml,listOf ms2.toArray p.x.mn) c3
        have c4 :=List.mem_cons_of_mem (p.x.ml,listOf ms2.toArray p.x.mn) c4
        have c5 :=List.mem_cons_of_mem (p.x.ml,listOf ms2.toArray p.x.mn) c5
        have c6 :=List.mem_cons_of_mem (p.x.ml,listOf ms2.toArray p.x.mn) c6
        have cR :∀ q ∈ dropN a.l news,q.1 ≠ p.x.ed → q ∈ (p.x.ml,listOf ms2.toArray p.x.mn) :: R3 :=fun q hq h => List.mem_cons_of_mem _ (cR q hq h)
        have R0 :∀ q ∈ (p.x.ml,listOf ms2.toArray p.x.mn) :: R3,q.1 ≠ p.x.ed :=fun q hq => by
          rcases List.mem_cons.mp hq with rfl | hq
          · exact Ne.symm edl
          · exact R0 q hq
        have hmE :=hm2
        have lmE :=lm2
        have lvE :=hm2.length
        have hgt :mp2.getD (j.fdiv 4).toNat 0 = (k :Int) :=by
          rw [← hmp2,List.getD_eq_getElem?_getD,List.getElem?_set_self (by omega)]; rfl
        generalize (p.x.ml,listOf ms2.toArray p.x.mn) :: R3 = R at N5 f1 f2 f3 f4 c1 c2 c3 c4 c5 c6 cR R0
        have dm1 :DM w.params a vs1 D1 R :=⟨c1,c2,c3,c4,hI1,lD1⟩
        clear dm2 N6 N7 NR hl2 dsub
        k_steps
        refine ⟨?_⟩
        rw [hgt]
        rename News _ _ _ _ => N8
        have hN8 :=as_ent (P :=w.params) (x :=p.x) (u :=p.e.user) (ex :=p.e.ext) (sp :=p.e.sp) (ct :=max p.e.ct (j + 1)) N8 max_if
        obtain ⟨tt,N9z⟩ :=hN8
        clear N8
        generalize hod :dictOf (entD w.params { p.x with t5 :=tt } p.e.user p.e.ext p.e.sp (max p.e.ct (j + 1))) 6 = od at N9z
        have hne :∀ (u :Array Value) (n :Nat),od ≠ listOf u n :=fun u n => hod ▸ dict_list'
        have dm2 :DM w.params a vs1 D1 ((p.x.ed,od) :: R) :=dm1.mono (fun q hq => List.mem_cons_of_mem _ hq)
        refine useM (o₀ :=listOf vs1.toArray a.n) (write_record_ok (by assumption) (by ktr_unf) (by ktr_units) (by ktr_room) (by tb_rel) (List.mem_cons_of_mem _ c6) rI rl b0 b1 s2 s3) (by k_asm) (by k_asm) (List.mem_cons_of_mem _ c4) ?_
        intro r9z tl9z ob9z h9z tk9z hP9z F9z N10 lt9z
        obtain ⟨e1',e2,ws9z,e3,hI9z⟩ :=hP9z
        subst e1' e2 e3
        simp only [List.nil_append] at N10
        have c4' :=List.mem_cons_of_mem (p.x.ed,od) c4
        have lv1 :=hI1.length
        have lwE :=okp.hw.length
        have lw1 :=okp.lw
        have y1 :=in_drop N9z (List.mem_cons_of_mem _ f2) c4' inst_list
        have y2 :=in_drop N9z (List.mem_cons_of_mem _ f3) c4' (list_ne (by omega))
        have y3 :=in_drop N9z (List.mem_cons_of_mem _ f4) c4' (list_ne (by omega))
        have y4 :=in_drop N9z List.mem_cons_self c4' (hne _ _)
        have y5 :=in_drop N9z (List.mem_cons_of_mem _ c1) c4' inst_list
        have y6 :=in_drop N9z (List.mem_cons_of_mem _ c2) c4' dict_list'
        have y7 :=in_drop N9z (List.mem_cons_of_mem _ c3) c4' (list_ne (by simp; omega))
        have yR :∀ q ∈ news,q.1 ≠ a.l → q ∈ dropN a.l ((p.x.ed,od) :: R) :=fun q hq h => mem_dropN.mpr ⟨List.mem_cons_of_mem _ (cR q (mem_dropN.mpr ⟨hq,h⟩) (hap (p.x.ed,dictOf (entD w.params p.x p.e.user p.e.ext p.e.sp p.e.ct) 6) (by simp) q hq)),h⟩
        subst hod
        generalize dropN a.l ((p.x.ed,dictOf (entD w.params { p.x with t5 :=tt } p.e.user p.e.ext p.e.sp (max p.e.ct (j + 1))) 6) :: R) = R2 at N10 y1 y2 y3 y4 y5 y6 y7 yR
        have lD2 :(lay D1 (128 * (k :Int).toNat + 32 * (j.fmod 4).toNat) os).length = 1408 :=by rw [lay_length (by omega),lD1]
        have dm3 :DM w.params a ws9z _ ((a.l,listOf ws9z.toArray a.n) :: R2) :=⟨List.mem_cons_of_mem _ y5,List.mem_cons_of_mem _ y6,List.mem_cons_of_mem _ y7,List.mem_cons_self,hI9z,lD2⟩
        have em3 :EM w.params { p.x with t5 :=tt } { p.e with map :=mp2,ct :=max p.e.ct (j + 1) } p.ws ms2 ((a.l,listOf ws9z.toArray a.n) :: R2) :=⟨List.mem_cons_of_mem _ y3,List.mem_cons_of_mem _ y2,List.mem_cons_of_mem _ y1,List.mem_cons_of_mem _ y4,okp.hw,hm2,okp.lw,lm2⟩
        clear N9z dm1 dm2 lt9z
        k_steps
        refine ⟨?_⟩
        refine useM (o₀ :=listOf ws9z.toArray a.n) (write_entry_ok (x :={ p.x with t5 :=tt }) (e :={ p.e with map :=mp2,ct :=max p.e.ct (j + 1) }) (by assumption) (by ktr_unf) (by ktr_units) (by ktr_room) dm3 em3 (by omega) (by omega)) (by k_asm) (by k_asm) List.mem_cons_self ?_
        intro r8z tl8z ob8z h8z tk8z hP8z F8z N11 lt8z
        obtain ⟨e1',e2,ws8z,e3,hI8z⟩ :=hP8z
        subst e1' e2 e3
        simp only [List.nil_append] at N11
        k_steps
        refine mutG [] (by k_asm) (by k_asm) (by assumption) (by assumption) (fun q hq h => List.mem_cons_of_mem _ (mem_dropN.mpr ⟨List.mem_cons_of_mem _ (yR q hq h),h⟩)) List.mem_cons_self (fun _ h => nomatch h) (fun _ h => nomatch h) ⟨rfl,rfl,_,rfl,?_⟩
        rw [Int.toNat_natCast p.num] at hI8z
        rw [hDF,hmp2]
        exact hI8z
theorem write_at_ok {l n l2 n2 :Nat} {ws us :List Value} {ps os :List Int} {u i :Int} {t t' :Tok} {num :Nat} {e1 :Ent} {D1 :List Int} (gh :GH w mg mb G) (st :Stay G s.heap) (hn :HN G s.heap news) (lv :Lv dp un 12) (dm :DM w.params a vs D news) (q1 :(l,listOf ws.toArray n) ∈ news) (qI :IntsAre ws ps) (ql :ps.length = 11)
    (r1 :(l2,listOf us.toArray n2) ∈ news) (rI :IntsAre us os) (rl :os.length = 32) (hu :u ≠ 229) (i0 :0 ≤ i) (i1 :i < 140) (hf :∀ r ∈ rowsF (findF D u ps),r.2.raw.getD 8 0 < 128) (hrow :WRow D u ps i num e1 D1) {b :Int} {mp :List Int} (hslot :WSlot D1 u ps e1 ((i % 64).fdiv 4) b mp) (b0 :0 ≤ b) (b1 :b < 11) (hct :0 ≤ e1.ct ∧ e1.ct < 256) {DF :List Int} (hDF :DF = lay (lay D1 (128 * b.toNat + 32 * ((i % 64).fmod 4).toNat) os) (32 * num) (entOcts { e1 with map :=mp,ct :=max e1.ct (i % 64 + 1) })) :
    wpAny (model rw_tg0048_01.row.prog w) (AR dp un fr gd) (call (.ref 335) [.ref a.d,.int u t,.ref l,.int i t',.ref l2]) (MutG s news a.l (Lays a.n DF)) (fun _ _ => False) s :=write_at_ok_L w dp un fr gd s mg mb G news a vs D l n l2 n2 ws us ps os u i t t' num e1 D1 b mp DF gh st hn lv dm q1 qI ql r1 rI rl hu i0 i1 hf hrow hslot b0 b1 hct hDF
end
theorem kw95 :True :=by
  (k_with "mRangeRest" => (refine toStop ?_))
  (k_with "mcall ref" => (refine toStop ?_))
  (k_with "mexec For Tuple Call" => (refine toStop ?_))
  (k_with "mite" => (refine toStop ?_))
  (k_with "msetItem ref int" => (refine toStop ?_))
  (k_with "msubscriptTail Call" => (refine toStop ?_))
  (k_with "msubscriptTail Name Constant ref int" => (refine toStop ?_))
  (k_with "msubscriptTail Subscript" => (refine toStop ?_))
  trivial
end
section
section
theorem kw96 :True :=by
  (k_with "msetItem ref int" => (k_extra "r8"))
  (k_with "mRangeRest" => (refine Wait.h ?_))
  (k_with "mexec For Tuple Call" => (k_extra "r6"))
  trivial
noncomputable abbrev CellsAre.seven_Q (cm :Str → Option Value) (n1 n2 n3 n4 n5 n6 n7 :Str) (c1 c2 c3 c4 c5 c6 c7 :Addr) (cells :List (Addr × Obj)) :Prop :=∀ (x :CellsAre cm [(n1,c1),(n2,c2),(n3,c3),(n4,c4),(n5,c5),(n6,c6),(n7,c7)] cells),∃ o1 o2 o3 o4 o5 o6 o7,cells = [(c1,o1),(c2,o2),(c3,o3),(c4,o4),(c5,o5),(c6,o6),(c7,o7)] ∧ o1.data = .cell (cm n1) ∧ o2.data = .cell (cm n2) ∧ o3.data = .cell (cm n3) ∧ o4.data = .cell (cm n4) ∧ o5.data = .cell (cm n5) ∧ o6.data = .cell (cm n6) ∧ o7.data = .cell (cm n7)
theorem CellsAre.seven_L :∀ cm n1 n2 n3 n4 n5 n6 n7 c1 c2 c3 c4 c5 c6 c7 cells,CellsAre.seven_Q cm n1 n2 n3 n4 n5 n6 n7 c1 c2 c3 c4 c5 c6 c7 cells :=by
  refine ei8 (h :=?_)
  generalize (ep8 _).1 = cm
  generalize (ep8 _).2.1 = n1
  generalize (ep8 _).2.2.1 = n2
  generalize (ep8 _).2.2.2.1 = n3
  generalize (ep8 _).2.2.2.2.1 = n4
  generalize (ep8 _).2.2.2.2.2.1 = n5
  generalize (ep8 _).2.2.2.2.2.2.1 = n6
  generalize (ep8 _).2.2.2.2.2.2.2 = n7
  refine ei8 (h :=?_)
  generalize (ep8 _).1 = c1
  generalize (ep8 _).2.1 = c2
  generalize (ep8 _).2.2.1 = c3
  generalize (ep8 _).2.2.2.1 = c4
  generalize (ep8 _).2.2.2.2.1 = c5
  generalize (ep8 _).2.2.2.2.2.1 = c6
  generalize (ep8 _).2.2.2.2.2.2.1 = c7
  generalize (ep8 _).2.2.2.2.2.2.2 = cells
  delta CellsAre.seven_Q
  intros x
  cases x with | cons h1 r =>
  cases r with | cons h2 r =>
  cases r with | cons h3 r =>
  cases r with | cons h4 r =>
  cases r with | cons h5 r =>
  cases r with | cons h6 r =>
  cases r with | cons h7 r =>
  cases r
  exact ⟨_,_,_,_,_,_,_,rfl,h1,h2,h3,h4,h5,h6,h7⟩
theorem CellsAre.seven {cm :Str → Option Value} {n1 n2 n3 n4 n5 n6 n7 :Str} {c1 c2 c3 c4 c5 c6 c7 :Addr} {cells :List (Addr × Obj)} :CellsAre.seven_Q cm n1 n2 n3 n4 n5 n6 n7 c1 c2 c3 c4 c5 c6 c7 cells :=CellsAre.seven_L cm n1 n2 n3 n4 n5 n6 n7 c1 c2 c3 c4 c5 c6 c7 cells
theorem TabOk.keeps {qual :Str} {ps :Array Value} {h h' :Heap} (x :TabOk qual ps h) (k :Stay h h') :TabOk qual ps h' :=
  ⟨x.tri,fun pos cv e => let ⟨c',e',r⟩ :=x.codes pos cv e; ⟨c',e',r.keeps k⟩⟩
noncomputable def TabIn (P :Addr) (qual :Str) (h :Heap) :Prop :=∃ ps,h.get? P = some (tabObj ps) ∧ TabOk qual ps h
theorem code362 {w :World} {g :Heap} (X :(Mine.hd.heap_39 w.params).In g) :CodeHd g 362 358 :=
  ⟨_,_,_,_,_,_,_,_,_,X 362 _ (by k_is),rfl,rfl,rfl,rfl,rfl,rfl,rfl,rfl,by decide⟩
theorem code372 {w :World} {g :Heap} (X :(Mine.hd.heap_39 w.params).In g) :CodeHd g 372 370 :=
  ⟨_,_,_,_,_,_,_,_,_,X 372 _ (by k_is),rfl,rfl,rfl,rfl,rfl,rfl,rfl,rfl,by decide⟩
theorem Stk.but {h h' :Heap} {l :List Env} {P :Addr} (S :Stk h l) (hx :Heap.ExtBut P h h') (hP :P ∉ frs l) :Stk h' l :=by
  have all :∀ {l' :List Env},(∀ x ∈ frs l',x ∈ frs l) → h.FunFrames (hideAll h (frs l)) l' → h'.FunFrames (hideAll h' (frs l)) l' :=by
    intros l'
    induction l' with
    | nil => intros _ _; trivial
    | cons e r ih =>
      rintro hs ⟨hk,⟨L,o,hf,hn,ho,hd⟩,hr⟩
      have hL :L ∈ frs (e :: r) :=by simp [frs,hf]
      refine ⟨hk,⟨L,o,hf,hideAll_none _ (hs _ hL),hx _ _ (fun q => hP (q ▸ hs _ hL)) ho,hd⟩,ih (fun x hx => hs x ?_) hr⟩
      rw [frs_cons hf]
      exact List.mem_cons_of_mem _ hx
  exact all (fun _ h => h) S
theorem frB {g h h' :Heap} {L P :Addr} {m :Str → Option Value} (F :Fr g L h m) (hx :Heap.ExtBut P h h') (gP :g.get? P = none) (hL :L ≠ P) :Fr g L h' m :=by
  obtain ⟨oL,es,ep,z,r⟩ :_ :=F.ns
  exact ⟨⟨oL,es,ep,hx _ _ hL z,r⟩,fun b o e => hx _ _ (fun q => by rw [q,gP] at e; cases e) (F.keep _ _ e),F.above⟩
theorem nameX_C {M :Model} {A :Around} {E :Value → Shared → Prop} {s :Shared} {g :Heap} {L a c :Addr} {m :Str → Option Value} {cn :Str} {cs :Scope} {ccd :Value} {cl :List (Str × Addr)} {x :Str} {pos :Pos} {v :Value} {o :Obj} {Q :Value → Shared → Prop}
    (F :Fr g L s.heap m) (hc :cl.lookup x = some c) (hg :g.get? c = some o) (hd :o.data = .cell (some v)) (h :Q v s)
    (hk :cs.kind = .function :=by rfl) (hx :(envX cn cs L a ccd cl).kindOf x = some .free :=by rfl) (hb :(x == ("__debug__" :Str)) = false :=by decide) (hn :(x == ("__classdict__" :Str)) = false :=by decide) :
    wpAny M A (eval (.Name x pos) (envX cn cs L a ccd cl)) Q E s :=wpAny_Name (wpAny_loadName_free hk hx hc ⟨o,F.keep _ _ hg,hd⟩ h hn) hb
theorem lam_post {w :World} {A :Around} {s :Shared} {G h₁ :Heap} {fl :List Env} {env :Env} {tk :Tok} {ch :List Addr} {P :Value → Heap → Prop} {W :Str → Prop} {t :Sem Value} (I :Inner s G fl env h₁) (hA :A.frames = some (env :: fl))
    (spec :wpAny (model PG w) A t (ChG { s with heap :=h₁,toks :=tk } (env :: fl) ch P) (RaiseW { s with heap :=h₁,toks :=tk } (env :: fl) W) { s with heap :=h₁,toks :=tk }) :
    wpAny (model PG w) A t (ChG s fl ch P) (fun e s' => wpAny (model PG w) A (leaving env e) (fun _ s'' => RaiseW s fl W e s'') (fun e' s'' => RaiseW s fl W e' s'') s') { s with heap :=h₁,toks :=tk } :=by
  refine wpAny_mono spec (fun v s' hv => hv.out I) fun e s' he => ?_
  obtain ⟨word,hW,ea,tw,h₂,t₂,rfl,rfl,Wy⟩ :_ :=he
  obtain ⟨L,hf,hL⟩ :_ :=I.fr
  exact leave_next hA hf I.st hL Wy rfl fun h₃ W' => ⟨word,hW,ea,tw,h₃,t₂,rfl,rfl,W'⟩
noncomputable abbrev DeedG (s :Shared) (fl :List Env) (ch :List Addr) (P :Value → Heap → Prop) (W :Str → Prop) :Value → Shared → Prop :=
  ChG s fl (358 :: ch) fun r h => TabIn 358 (Str.ofString "_law_deed.<locals>.<lambda>") h ∧ (P r h ∨ ((∃ word t,W word ∧ r = .str word t) ∧ ∀ b ∈ ch,∀ o,s.heap.get? b = some o → h.get? b = some o))
noncomputable abbrev deed_end_Q (s :Shared) (G h₁ h₂ :Heap) (fl :List Env) (env :Env) (tk :Tok) (ch :List Addr) (P :Value → Heap → Prop) (W :Str → Prop) (v :Value) (s' :Shared) (ps :Array Value) (o0 :Obj) (Q9 :Str) :Prop :=∀ (hQ9 :Q9 = Str.ofString "_law_deed.<locals>.<lambda>") (I :Inner s G fl env h₁) (h0 :s.heap.get? 358 = some o0) (hn0 :∃ vs,o0.data = .fields vs) (hx :Heap.ExtBut 358 h₁ h₂) (hP :h₂.get? 358 = some (tabObj ps)) (hT :TabOk Q9 ps h₂) (S :Stk s.heap fl) (hch :∀ b ∈ ch,∃ o,s.heap.get? b = some o ∧ ∀ vs,o.data ≠ .fields vs) (nch :∀ b ∈ ch,b ∉ frs fl) (T :ToldG { s with heap :=h₂,toks :=tk } (env :: fl) ch P W v s'),DeedG s fl ch P W v s'
theorem deed_end_L :∀ s G h₁ h₂ fl env tk ch P W v s' ps o0 Q9,deed_end_Q s G h₁ h₂ fl env tk ch P W v s' ps o0 Q9 :=by
  intro s G h₁ h₂ fl env tk ch P W v s' ps o0 Q9
  delta deed_end_Q
  intro hQ9 I h0 hn0 hx hP hT S hch nch T
  subst hQ9
  obtain ⟨L,hf,hL⟩ :=I.fr
  have st₂ :∀ b o,s.heap.get? b = some o → b ≠ 358 → h₂.get? b = some o :=fun b o e n => hx b o n (I.st _ _ e)
  have n358 :(358 :Addr) ∉ frs (env :: fl) :=fun q => by
    rw [frs_cons hf] at q
    rcases List.mem_cons.mp q with q | q
    · rw [← q,h0] at hL; cases hL
    · obtain ⟨_,o,z,hd⟩ :=S.mem q
      obtain ⟨vs,e⟩ :=hn0
      rw [h0] at z; cases z
      exact hd vs e
  have c358 :(358 :Addr) ∉ ch :=fun q => by
    obtain ⟨o,z,hd⟩ :=hch _ q
    obtain ⟨vs,e⟩ :=hn0
    rw [h0] at z; cases z
    exact hd vs e
  have key :∀ {ch' :List Addr} {P' :Value → Heap → Prop},(∀ b ∈ ch',b ∈ ch) → ChG { s with heap :=h₂,toks :=tk } (env :: fl) ch' P' v s' → ∃ h' tk',s' = { s with heap :=h',toks :=tk' } ∧ (∀ b ob,s.heap.get? b = some ob → b ∉ 358 :: ch' → b ∉ frs fl → h'.get? b = some ob) ∧ (∀ b ob,s.heap.get? b = some ob → b ∈ frs fl → b ∉ 358 :: ch' → ∃ sl,h'.get? b = some { ob with slots :=sl }) ∧ TabIn 358 (Str.ofString "_law_deed.<locals>.<lambda>") h' ∧ P' v h' :=by
    (intro ch' P' hs; rintro ⟨h',tk',rfl,c1,c2,c3⟩)
    refine ⟨h',tk',rfl,fun b ob e n1 n2 => ?_,fun b ob e m n => ?_,?_,c3⟩
    · refine c1 b ob (st₂ _ _ e fun q => n1 (q ▸ List.mem_cons_self)) (fun q => n1 (List.mem_cons_of_mem _ q)) fun q => ?_
      rw [frs_cons hf] at q
      rcases List.mem_cons.mp q with q | q
      · rw [q,hL] at e; cases e
      · exact n2 q
    · refine c2 b ob (st₂ _ _ e fun q => n358 ?_) ?_ ?_
      · rw [frs_cons hf,← q]; exact List.mem_cons_of_mem _ m
      · rw [frs_cons hf]; exact List.mem_cons_of_mem _ m
      · exact fun q => n (List.mem_cons_of_mem _ q)
    · refine ⟨ps,c1 _ _ hP (fun q => c358 (hs _ q)) n358,hT.tri,fun pos cv e => ?_⟩
      obtain ⟨c',rfl,c₂,oc,vs,t,e2,hoc,hd,hv⟩ :=hT.codes pos cv e
      cases e2
      refine ⟨c',rfl,c',oc,vs,t,rfl,c1 _ _ hoc (fun q => ?_) (fun q => ?_),hd,hv⟩
      · obtain ⟨o,z,hnf⟩ :=hch _ (hs _ q)
        have :=st₂ _ _ z fun q' => c358 (q' ▸ hs _ q)
        have hoc' :h₂.get? c' = some oc :=hoc
        rw [hoc'] at this
        cases this
        exact hnf _ hd
      · have SI :Stk h₁ (env :: fl) :=I.S
        obtain ⟨_,o,z,hnf⟩ :=SI.mem q
        have :=hx _ _ (fun q' => n358 (q' ▸ q)) z
        have hoc' :h₂.get? c' = some oc :=hoc
        rw [hoc'] at this
        cases this
        exact hnf _ hd
  rcases T with T | ⟨word,t,hW,rfl,T⟩
  · obtain ⟨h',tk',e,c1,c2,c3,c4⟩ :=key (fun _ h => h) T
    exact ⟨h',tk',e,c1,c2,c3,.inl c4⟩
  · obtain ⟨h',tk',e,c1,c2,c3,c4⟩ :=key (ch' :=[]) (fun _ h => nomatch h) T
    refine ⟨h',tk',e,fun b ob z n1 n2 => c1 b ob z (fun q => n1 ?_) n2,fun b ob z m n => c2 b ob z m (fun q => n ?_),c3,.inr ⟨⟨word,t,hW,rfl⟩,fun b hb o z => c1 b o z (fun q => ?_) (nch b hb)⟩⟩
    · rcases List.mem_cons.mp q with rfl | q
      · exact List.mem_cons_self
      · nomatch q
    · rcases List.mem_cons.mp q with rfl | q
      · exact List.mem_cons_self
      · nomatch q
    · rcases List.mem_cons.mp q with rfl | q
      · exact c358 hb
      · nomatch q
theorem deed_end {s :Shared} {G h₁ h₂ :Heap} {fl :List Env} {env :Env} {tk :Tok} {ch :List Addr} {P :Value → Heap → Prop} {W :Str → Prop} {v :Value} {s' :Shared} {ps :Array Value} {o0 :Obj} {Q9 :Str} (hQ9 :Q9 = Str.ofString "_law_deed.<locals>.<lambda>") (I :Inner s G fl env h₁) (h0 :s.heap.get? 358 = some o0) (hn0 :∃ vs,o0.data = .fields vs) (hx :Heap.ExtBut 358 h₁ h₂) (hP :h₂.get? 358 = some (tabObj ps)) (hT :TabOk Q9 ps h₂) (S :Stk s.heap fl)
    (hch :∀ b ∈ ch,∃ o,s.heap.get? b = some o ∧ ∀ vs,o.data ≠ .fields vs) (nch :∀ b ∈ ch,b ∉ frs fl) (T :ToldG { s with heap :=h₂,toks :=tk } (env :: fl) ch P W v s') :DeedG s fl ch P W v s' :=deed_end_L s G h₁ h₂ fl env tk ch P W v s' ps o0 Q9 hQ9 I h0 hn0 hx hP hT S hch nch T
section
variable {w :World} {dp un :Nat} {fl :List Env} {gd :Option (List Code)} {s :Shared} {mg mb :Str → Option Value} {G :Heap} {news :List (Addr × Obj)} {a :DA} {ch :List Addr} {P :Value → Heap → Prop} {W :Str → Prop}
theorem kw97 :True :=by
  (k_with "meval Lambda" => (refine Wait.h ?_))
  trivial
noncomputable abbrev deedQ :Str :=Str.ofString "_law_deed.<locals>.<lambda>"
theorem kw98 :True :=by
  (k_with "mcall ref" => (refine Wait.h ?_))
  (k_with "meval Name" => (k_extra "r3"))
  trivial
noncomputable abbrev deed_make_Q (w :World) (dp un :Nat) (gd :Option (List Code)) (s :Shared) (mg mb :Str → Option Value) (G :Heap) (a :DA) (fl :List Env) (ch :List Addr) (P :Value → Heap → Prop) (W :Str → Prop) (u kind sp :Int) (t tk ts :Tok) (l l2 l3 :Addr) :Prop :=∀ (gh :GH w mg mb G) (st :Stay G s.heap) (lv :Lv dp un 20) (S :Stk s.heap fl) (hG :∀ a ∈ frs fl,G.get? a = none) (tab :TabIn 358 deedQ s.heap) (g358 :G.get? 358 = none) (hk :kind < 2) (hch :∀ b ∈ ch,∃ o,s.heap.get? b = some o ∧ ∀ vs,o.data ≠ .fields vs) (nch :∀ b ∈ ch,b ∉ frs fl) (callee :∀ fl' s',Stay G s'.heap → (∀ b o,s.heap.get? b = some o → b ≠ 358 → s'.heap.get? b = some o) → Stk s'.heap fl' → wpAny (model PG w) (AR (dp + 3) (un + 9) (some fl') gd) (call (.ref 280) [.ref a.d,.int u t,.ref l]) (ChG s' fl' ch P) (RaiseW s' fl' W) s'),wpAny (model rw_tg0048_01.row.prog w) (AR dp un (some fl) gd) (call (.ref 363) [.ref a.d,.int u t,.int kind tk,.ref l,.ref l2,.int sp ts,.ref l3]) (DeedG s fl ch P W) (fun _ _ => False) s
theorem deed_make_L :∀ w dp un gd s mg mb G a fl ch P W u kind sp t tk ts l l2 l3,deed_make_Q w dp un gd s mg mb G a fl ch P W u kind sp t tk ts l l2 l3 :=by
  intro w dp un gd s mg mb G a fl ch P W u kind sp t tk ts l l2 l3
  delta deed_make_Q
  intro gh st lv S hG tab g358 hk hch nch callee
  obtain ⟨ps,h358,hT⟩ :=tab
  refine wpAny_call ?_
  refine' enterCH (358 :: frs fl) gh st ?hG ?k8 ?k6 ?k7 ?k9 ?kB ?kD ?_ ?c2 ?c3 ?c4
  case hG => exact fun b hb => (List.mem_cons.mp hb).elim (fun e => e ▸ g358) (hG b)
  case k6 => k_is
  case k7 => k_is
  case k8 => exact lv_room lv
  case k9 => exact BindsTo.of_eq rfl
  case kB => exact rfl
  case kD => decide +kernel
  case c2 => exact rfl
  case c3 => exact rfl
  case c4 => exact rfl
  intro g L h₁ tk' cells loose mean F N Y X T sg kp bk hL st₁ nc
  obtain ⟨o1,o2,o3,o4,o5,o6,o7,rfl,d1,d2,d3,d4,d5,d6,d7⟩ :=CellsAre.seven Y
  clear Y
  have F :Fr g L h₁ (fun z => if z = Str.ofString "kind" then some (.int kind tk) else none) :=F
  have gP :g.get? 358 = none :=by
    cases q :g.get? 358 with
    | none => rfl
    | some o => exact absurd List.mem_cons_self (bk _ _ q).2
  have hL358 :L ≠ 358 :=fun e => by rw [e,h358] at hL; cases hL
  dsimp only
  k_steps
  refine ⟨make_lam (c :=362) (P :=358) F T (code362 X) rfl (st₁ _ _ h358) (hT.keeps st₁) gP (by rfl) (by rfl) ?_⟩
  intro f c' ctv ps' h₂ tk₂ hx hP' hT' ho hrec hfn
  have F₂ :=frB F hx gP hL358
  dsimp only
  k_steps
  refine ⟨?_⟩
  have Iof :∀ env :Env,env.scope.kind = .function → env.frame = some L → Inner s G fl env h₁ :=fun env e1 e2 => Inner.of st S hG st₁ e1 e2 hL F.ns
  have st₂ :Stay G h₂ :=fun b o e => hx _ _ (fun q => by rw [q,g358] at e; cases e) (st₁ _ _ (st _ _ e))
  have n358 :∀ env :Env,env.frame = some L → (358 :Addr) ∉ frs (env :: fl) :=fun env e q => by
    rw [frs_cons e] at q
    rcases List.mem_cons.mp q with q | q
    · exact hL358 q.symm
    · obtain ⟨_,o,z,hd⟩ :=S.mem q
      rw [h358] at z; cases z
      exact hd _ rfl
  refine wpAny_mono (told_any (s :={ s with heap :=h₂,toks :=_ }) (ch :=ch) (P :=P) (W :=W) gh st₂ (lv_use lv (by decide)) (Stk.but (Iof _ rfl rfl).S hx (n358 _ rfl)) (Iof _ rfl rfl).hG ho ⟨_,rfl⟩ ?_) (fun v s' hv => deed_end rfl (Iof _ rfl rfl) h358 ⟨_,rfl⟩ hx hP' hT' S hch nch hv) fun _ _ e => e.elim
  intro env h₃ tk₃ I₃
  have st₃ :Stay G h₃ :=fun b o e => I₃.st _ _ (st₂ _ _ e)
  refine wpAny_call (enterL [] gh st₃ (fun _ h => nomatch h) (lv_room (lv_use (lv_use lv (by decide :18 + 1 ≤ 20)) (by decide :17 + 1 ≤ 18))) (I₃.st _ _ ho) (hrec.keeps I₃.st) rfl ?_ rfl rfl rfl (by decide))
  intro g₄ L₄ h₄ tk₄ lo me F₄ X₄ T₄ sg₄ kp₄ bk₄ hL₄ st₄
  have cellAt :∀ p ∈ [(L + 1 + 1 + 1 + 1 + 1 + 1 + 1,o1),(L + 1 + 1 + 1 + 1 + 1 + 1,o2),(L + 1 + 1 + 1 + 1 + 1,o3),(L + 1 + 1 + 1 + 1,o4),(L + 1 + 1 + 1,o5),(L + 1 + 1,o6),(L + 1,o7)],g₄.get? p.1 = some p.2 :=fun p hp => by
    refine kp₄ _ _ (I₃.st _ _ (hx _ _ (fun e => ?_) (N p hp).1)) (fun h => nomatch h)
    have :=nc p hp
    rw [e,h358] at this
    cases this
  have k1 :=cellAt (L + 1 + 1 + 1 + 1 + 1 + 1 + 1,o1) (by simp)
  have k2 :=cellAt (L + 1 + 1 + 1 + 1 + 1 + 1,o2) (by simp)
  have k3 :=cellAt (L + 1 + 1 + 1 + 1 + 1,o3) (by simp)
  have k4 :=cellAt (L + 1 + 1 + 1 + 1,o4) (by simp)
  have k5 :=cellAt (L + 1 + 1 + 1,o5) (by simp)
  have k6 :=cellAt (L + 1 + 1,o6) (by simp)
  have k7 :=cellAt (L + 1,o7) (by simp)
  clear F F₂ N cellAt
  dsimp only at k1 k2 k3 k4 k5 k6 k7 ⊢
  k_steps
  refine ⟨?_⟩
  have Iof₄ :∀ env' :Env,env'.scope.kind = .function → env'.frame = some L₄ → Inner { s with heap :=h₃,toks :=tk₃ } G _ env' h₄ :=fun env' e1 e2 => Inner.of st₃ I₃.S I₃.hG st₄ e1 e2 hL₄ F₄.ns
  refine lam_post (s :={ s with heap :=h₃,toks :=tk₃ }) (Iof₄ _ rfl rfl) rfl (callee _ _ (fun b o e => st₄ _ _ (st₃ _ _ e)) (fun b o e n => st₄ _ _ (I₃.st _ _ (hx _ _ n (st₁ _ _ e)))) (Iof₄ _ rfl rfl).S)
theorem deed_make {u kind sp :Int} {t tk ts :Tok} {l l2 l3 :Addr} :deed_make_Q w dp un gd s mg mb G a fl ch P W u kind sp t tk ts l l2 l3 :=deed_make_L w dp un gd s mg mb G a fl ch P W u kind sp t tk ts l l2 l3
end
end
theorem kw99 :True :=by
  (k_with "mRangeRest" => (refine toStop ?_))
  (k_with "mcall ref" => (refine toStop ?_))
  (k_with "meval Lambda" => (refine toStop ?_))
  (k_with "meval Name" => (refine toStop ?_))
  (k_with "mexec For Tuple Call" => (refine toStop ?_))
  (k_with "msetItem ref int" => (refine toStop ?_))
  trivial
end
section
section
theorem kw100 :True :=by
  (k_with "msetItem ref int" => (k_extra "r8"))
  (k_with "mRangeRest" => (refine Wait.h ?_))
  (k_with "mexec For Tuple Call" => (k_extra "r6"))
  trivial
section
variable {w :World} {dp un :Nat} {fl :List Env} {gd :Option (List Code)} {s :Shared} {mg mb :Str → Option Value} {G :Heap} {news :List (Addr × Obj)} {a :DA} {ch :List Addr} {P :Value → Heap → Prop} {W :Str → Prop}
theorem kw101 :True :=by
  (k_with "meval Lambda" => (refine Wait.h ?_))
  (k_with "mcall ref" => (refine Wait.h ?_))
  (k_with "meval Name" => (k_extra "r3"))
  trivial
noncomputable abbrev deed_write_Q (w :World) (dp un :Nat) (gd :Option (List Code)) (s :Shared) (mg mb :Str → Option Value) (G :Heap) (a :DA) (fl :List Env) (ch :List Addr) (P :Value → Heap → Prop) (W :Str → Prop) (u kind sp :Int) (t tk ts :Tok) (l l2 l3 :Addr) :Prop :=∀ (gh :GH w mg mb G) (st :Stay G s.heap) (lv :Lv dp un 20) (S :Stk s.heap fl) (hG :∀ a ∈ frs fl,G.get? a = none) (tab :TabIn 358 deedQ s.heap) (g358 :G.get? 358 = none) (hk :2 ≤ kind) (hk2 :kind < 6) (hch :∀ b ∈ ch,∃ o,s.heap.get? b = some o ∧ ∀ vs,o.data ≠ .fields vs) (nch :∀ b ∈ ch,b ∉ frs fl) (callee :∀ fl' s',Stay G s'.heap → (∀ b o,s.heap.get? b = some o → b ≠ 358 → s'.heap.get? b = some o) → Stk s'.heap fl' → wpAny (model PG w) (AR (dp + 3) (un + 9) (some fl') gd) (call (.ref 335) [.ref a.d,.int u t,.ref l,.int sp ts,.ref l3]) (ChG s' fl' ch P) (RaiseW s' fl' W) s'),wpAny (model rw_tg0048_01.row.prog w) (AR dp un (some fl) gd) (call (.ref 363) [.ref a.d,.int u t,.int kind tk,.ref l,.ref l2,.int sp ts,.ref l3]) (DeedG s fl ch P W) (fun _ _ => False) s
theorem deed_write_L :∀ w dp un gd s mg mb G a fl ch P W u kind sp t tk ts l l2 l3,deed_write_Q w dp un gd s mg mb G a fl ch P W u kind sp t tk ts l l2 l3 :=by
  intro w dp un gd s mg mb G a fl ch P W u kind sp t tk ts l l2 l3
  delta deed_write_Q
  intro gh st lv S hG tab g358 hk hk2 hch nch callee
  obtain ⟨ps,h358,hT⟩ :=tab
  refine wpAny_call ?_
  refine' enterCH (358 :: frs fl) gh st ?hG ?k8 ?k6 ?k7 ?k9 ?kB ?kD ?_ ?c2 ?c3 ?c4
  case hG => exact fun b hb => (List.mem_cons.mp hb).elim (fun e => e ▸ g358) (hG b)
  case k6 => k_is
  case k7 => k_is
  case k8 => exact lv_room lv
  case k9 => exact BindsTo.of_eq rfl
  case kB => exact rfl
  case kD => decide +kernel
  case c2 => exact rfl
  case c3 => exact rfl
  case c4 => exact rfl
  intro g L h₁ tk' cells loose mean F N Y X T sg kp bk hL st₁ nc
  obtain ⟨o1,o2,o3,o4,o5,o6,o7,rfl,d1,d2,d3,d4,d5,d6,d7⟩ :=CellsAre.seven Y
  clear Y
  have F :Fr g L h₁ (fun z => if z = Str.ofString "kind" then some (.int kind tk) else none) :=F
  have gP :g.get? 358 = none :=by
    cases q :g.get? 358 with
    | none => rfl
    | some o => exact absurd List.mem_cons_self (bk _ _ q).2
  have hL358 :L ≠ 358 :=fun e => by rw [e,h358] at hL; cases hL
  dsimp only
  k_steps
  refine ⟨make_lam (c :=362) (P :=358) F T (code362 X) rfl (st₁ _ _ h358) (hT.keeps st₁) gP (by rfl) (by rfl) ?_⟩
  intro f c' ctv ps' h₂ tk₂ hx hP' hT' ho hrec hfn
  have F₂ :=frB F hx gP hL358
  dsimp only
  k_steps
  refine ⟨?_⟩
  have Iof :∀ env :Env,env.scope.kind = .function → env.frame = some L → Inner s G fl env h₁ :=fun env e1 e2 => Inner.of st S hG st₁ e1 e2 hL F.ns
  have st₂ :Stay G h₂ :=fun b o e => hx _ _ (fun q => by rw [q,g358] at e; cases e) (st₁ _ _ (st _ _ e))
  have n358 :∀ env :Env,env.frame = some L → (358 :Addr) ∉ frs (env :: fl) :=fun env e q => by
    rw [frs_cons e] at q
    rcases List.mem_cons.mp q with q | q
    · exact hL358 q.symm
    · obtain ⟨_,o,z,hd⟩ :=S.mem q
      rw [h358] at z; cases z
      exact hd _ rfl
  refine wpAny_mono (told_any (s :={ s with heap :=h₂,toks :=_ }) (ch :=ch) (P :=P) (W :=W) gh st₂ (lv_use lv (by decide)) (Stk.but (Iof _ rfl rfl).S hx (n358 _ rfl)) (Iof _ rfl rfl).hG ho ⟨_,rfl⟩ ?_) (fun v s' hv => deed_end rfl (Iof _ rfl rfl) h358 ⟨_,rfl⟩ hx hP' hT' S hch nch hv) fun _ _ e => e.elim
  intro env h₃ tk₃ I₃
  have st₃ :Stay G h₃ :=fun b o e => I₃.st _ _ (st₂ _ _ e)
  refine wpAny_call (enterL [] gh st₃ (fun _ h => nomatch h) (lv_room (lv_use (lv_use lv (by decide :18 + 1 ≤ 20)) (by decide :17 + 1 ≤ 18))) (I₃.st _ _ ho) (hrec.keeps I₃.st) rfl ?_ rfl rfl rfl (by decide))
  intro g₄ L₄ h₄ tk₄ lo me F₄ X₄ T₄ sg₄ kp₄ bk₄ hL₄ st₄
  have cellAt :∀ p ∈ [(L + 1 + 1 + 1 + 1 + 1 + 1 + 1,o1),(L + 1 + 1 + 1 + 1 + 1 + 1,o2),(L + 1 + 1 + 1 + 1 + 1,o3),(L + 1 + 1 + 1 + 1,o4),(L + 1 + 1 + 1,o5),(L + 1 + 1,o6),(L + 1,o7)],g₄.get? p.1 = some p.2 :=fun p hp => by
    refine kp₄ _ _ (I₃.st _ _ (hx _ _ (fun e => ?_) (N p hp).1)) (fun h => nomatch h)
    have :=nc p hp
    rw [e,h358] at this
    cases this
  have k1 :=cellAt (L + 1 + 1 + 1 + 1 + 1 + 1 + 1,o1) (by simp)
  have k2 :=cellAt (L + 1 + 1 + 1 + 1 + 1 + 1,o2) (by simp)
  have k3 :=cellAt (L + 1 + 1 + 1 + 1 + 1,o3) (by simp)
  have k4 :=cellAt (L + 1 + 1 + 1 + 1,o4) (by simp)
  have k5 :=cellAt (L + 1 + 1 + 1,o5) (by simp)
  have k6 :=cellAt (L + 1 + 1,o6) (by simp)
  have k7 :=cellAt (L + 1,o7) (by simp)
  clear F F₂ N cellAt
  dsimp only at k1 k2 k3 k4 k5 k6 k7 ⊢
  k_steps
  refine ⟨?_⟩
  have Iof₄ :∀ env' :Env,env'.scope.kind = .function → env'.frame = some L₄ → Inner { s with heap :=h₃,toks :=tk₃ } G _ env' h₄ :=fun env' e1 e2 => Inner.of st₃ I₃.S I₃.hG st₄ e1 e2 hL₄ F₄.ns
  refine lam_post (s :={ s with heap :=h₃,toks :=tk₃ }) (Iof₄ _ rfl rfl) rfl (callee _ _ (fun b o e => st₄ _ _ (st₃ _ _ e)) (fun b o e n => st₄ _ _ (I₃.st _ _ (hx _ _ n (st₁ _ _ e)))) (Iof₄ _ rfl rfl).S)
theorem deed_write {u kind sp :Int} {t tk ts :Tok} {l l2 l3 :Addr} :deed_write_Q w dp un gd s mg mb G a fl ch P W u kind sp t tk ts l l2 l3 :=deed_write_L w dp un gd s mg mb G a fl ch P W u kind sp t tk ts l l2 l3
noncomputable abbrev deed_delete_Q (w :World) (dp un :Nat) (gd :Option (List Code)) (s :Shared) (mg mb :Str → Option Value) (G :Heap) (a :DA) (fl :List Env) (ch :List Addr) (P :Value → Heap → Prop) (W :Str → Prop) (u sp :Int) (t tk ts :Tok) (l l2 l3 :Addr) :Prop :=∀ (gh :GH w mg mb G) (st :Stay G s.heap) (lv :Lv dp un 20) (S :Stk s.heap fl) (hG :∀ a ∈ frs fl,G.get? a = none) (tab :TabIn 358 deedQ s.heap) (g358 :G.get? 358 = none) (hch :∀ b ∈ ch,∃ o,s.heap.get? b = some o ∧ ∀ vs,o.data ≠ .fields vs) (nch :∀ b ∈ ch,b ∉ frs fl) (callee :∀ fl' s',Stay G s'.heap → (∀ b o,s.heap.get? b = some o → b ≠ 358 → s'.heap.get? b = some o) → Stk s'.heap fl' → wpAny (model PG w) (AR (dp + 3) (un + 9) (some fl') gd) (call (.ref 299) [.ref a.d,.int u t,.ref l]) (ChG s' fl' ch P) (RaiseW s' fl' W) s'),wpAny (model rw_tg0048_01.row.prog w) (AR dp un (some fl) gd) (call (.ref 363) [.ref a.d,.int u t,.int 6 tk,.ref l,.ref l2,.int sp ts,.ref l3]) (DeedG s fl ch P W) (fun _ _ => False) s
theorem deed_delete_L :∀ w dp un gd s mg mb G a fl ch P W u sp t tk ts l l2 l3,deed_delete_Q w dp un gd s mg mb G a fl ch P W u sp t tk ts l l2 l3 :=by
  intro w dp un gd s mg mb G a fl ch P W u sp t tk ts l l2 l3
  delta deed_delete_Q
  intro gh st lv S hG tab g358 hch nch callee
  obtain ⟨ps,h358,hT⟩ :=tab
  refine wpAny_call ?_
  refine' enterCH (358 :: frs fl) gh st ?hG ?k8 ?k6 ?k7 ?k9 ?kB ?kD ?_ ?c2 ?c3 ?c4
  case hG => exact fun b hb => (List.mem_cons.mp hb).elim (fun e => e ▸ g358) (hG b)
  case k6 => k_is
  case k7 => k_is
  case k8 => exact lv_room lv
  case k9 => exact BindsTo.of_eq rfl
  case kB => exact rfl
  case kD => decide +kernel
  case c2 => exact rfl
  case c3 => exact rfl
  case c4 => exact rfl
  intro g L h₁ tk' cells loose mean F N Y X T sg kp bk hL st₁ nc
  obtain ⟨o1,o2,o3,o4,o5,o6,o7,rfl,d1,d2,d3,d4,d5,d6,d7⟩ :=CellsAre.seven Y
  clear Y
  have F :Fr g L h₁ (fun z => if z = Str.ofString "kind" then some (.int 6 tk) else none) :=F
  have gP :g.get? 358 = none :=by
    cases q :g.get? 358 with
    | none => rfl
    | some o => exact absurd List.mem_cons_self (bk _ _ q).2
  have hL358 :L ≠ 358 :=fun e => by rw [e,h358] at hL; cases hL
  dsimp only
  k_steps
  refine ⟨make_lam (c :=362) (P :=358) F T (code362 X) rfl (st₁ _ _ h358) (hT.keeps st₁) gP (by rfl) (by rfl) ?_⟩
  intro f c' ctv ps' h₂ tk₂ hx hP' hT' ho hrec hfn
  have F₂ :=frB F hx gP hL358
  dsimp only
  k_steps
  refine ⟨?_⟩
  have Iof :∀ env :Env,env.scope.kind = .function → env.frame = some L → Inner s G fl env h₁ :=fun env e1 e2 => Inner.of st S hG st₁ e1 e2 hL F.ns
  have st₂ :Stay G h₂ :=fun b o e => hx _ _ (fun q => by rw [q,g358] at e; cases e) (st₁ _ _ (st _ _ e))
  have n358 :∀ env :Env,env.frame = some L → (358 :Addr) ∉ frs (env :: fl) :=fun env e q => by
    rw [frs_cons e] at q
    rcases List.mem_cons.mp q with q | q
    · exact hL358 q.symm
    · obtain ⟨_,o,z,hd⟩ :=S.mem q
      rw [h358] at z; cases z
      exact hd _ rfl
  refine wpAny_mono (told_any (s :={ s with heap :=h₂,toks :=_ }) (ch :=ch) (P :=P) (W :=W) gh st₂ (lv_use lv (by decide)) (Stk.but (Iof _ rfl rfl).S hx (n358 _ rfl)) (Iof _ rfl rfl).hG ho ⟨_,rfl⟩ ?_) (fun v s' hv => deed_end rfl (Iof _ rfl rfl) h358 ⟨_,rfl⟩ hx hP' hT' S hch nch hv) fun _ _ e => e.elim
  intro env h₃ tk₃ I₃
  have st₃ :Stay G h₃ :=fun b o e => I₃.st _ _ (st₂ _ _ e)
  refine wpAny_call (enterL [] gh st₃ (fun _ h => nomatch h) (lv_room (lv_use (lv_use lv (by decide :18 + 1 ≤ 20)) (by decide :17 + 1 ≤ 18))) (I₃.st _ _ ho) (hrec.keeps I₃.st) rfl ?_ rfl rfl rfl (by decide))
  intro g₄ L₄ h₄ tk₄ lo me F₄ X₄ T₄ sg₄ kp₄ bk₄ hL₄ st₄
  have cellAt :∀ p ∈ [(L + 1 + 1 + 1 + 1 + 1 + 1 + 1,o1),(L + 1 + 1 + 1 + 1 + 1 + 1,o2),(L + 1 + 1 + 1 + 1 + 1,o3),(L + 1 + 1 + 1 + 1,o4),(L + 1 + 1 + 1,o5),(L + 1 + 1,o6),(L + 1,o7)],g₄.get? p.1 = some p.2 :=fun p hp => by
    refine kp₄ _ _ (I₃.st _ _ (hx _ _ (fun e => ?_) (N p hp).1)) (fun h => nomatch h)
    have :=nc p hp
    rw [e,h358] at this
    cases this
  have k1 :=cellAt (L + 1 + 1 + 1 + 1 + 1 + 1 + 1,o1) (by simp)
  have k2 :=cellAt (L + 1 + 1 + 1 + 1 + 1 + 1,o2) (by simp)
  have k3 :=cellAt (L + 1 + 1 + 1 + 1 + 1,o3) (by simp)
  have k4 :=cellAt (L + 1 + 1 + 1 + 1,o4) (by simp)
  have k5 :=cellAt (L + 1 + 1 + 1,o5) (by simp)
  have k6 :=cellAt (L + 1 + 1,o6) (by simp)
  have k7 :=cellAt (L + 1,o7) (by simp)
  clear F F₂ N cellAt
  dsimp only at k1 k2 k3 k4 k5 k6 k7 ⊢
  k_steps
  refine ⟨?_⟩
  have Iof₄ :∀ env' :Env,env'.scope.kind = .function → env'.frame = some L₄ → Inner { s with heap :=h₃,toks :=tk₃ } G _ env' h₄ :=fun env' e1 e2 => Inner.of st₃ I₃.S I₃.hG st₄ e1 e2 hL₄ F₄.ns
  refine lam_post (s :={ s with heap :=h₃,toks :=tk₃ }) (Iof₄ _ rfl rfl) rfl (callee _ _ (fun b o e => st₄ _ _ (st₃ _ _ e)) (fun b o e n => st₄ _ _ (I₃.st _ _ (hx _ _ n (st₁ _ _ e)))) (Iof₄ _ rfl rfl).S)
theorem deed_delete {u sp :Int} {t tk ts :Tok} {l l2 l3 :Addr} :deed_delete_Q w dp un gd s mg mb G a fl ch P W u sp t tk ts l l2 l3 :=deed_delete_L w dp un gd s mg mb G a fl ch P W u sp t tk ts l l2 l3
noncomputable abbrev deed_rename_Q (w :World) (dp un :Nat) (gd :Option (List Code)) (s :Shared) (mg mb :Str → Option Value) (G :Heap) (a :DA) (fl :List Env) (ch :List Addr) (P :Value → Heap → Prop) (W :Str → Prop) (u sp :Int) (t tk ts :Tok) (l l2 l3 :Addr) :Prop :=∀ (gh :GH w mg mb G) (st :Stay G s.heap) (lv :Lv dp un 20) (S :Stk s.heap fl) (hG :∀ a ∈ frs fl,G.get? a = none) (tab :TabIn 358 deedQ s.heap) (g358 :G.get? 358 = none) (hch :∀ b ∈ ch,∃ o,s.heap.get? b = some o ∧ ∀ vs,o.data ≠ .fields vs) (nch :∀ b ∈ ch,b ∉ frs fl) (callee :∀ fl' s',Stay G s'.heap → (∀ b o,s.heap.get? b = some o → b ≠ 358 → s'.heap.get? b = some o) → Stk s'.heap fl' → wpAny (model PG w) (AR (dp + 3) (un + 9) (some fl') gd) (call (.ref 304) [.ref a.d,.int u t,.ref l,.ref l2]) (ChG s' fl' ch P) (RaiseW s' fl' W) s'),wpAny (model rw_tg0048_01.row.prog w) (AR dp un (some fl) gd) (call (.ref 363) [.ref a.d,.int u t,.int 7 tk,.ref l,.ref l2,.int sp ts,.ref l3]) (DeedG s fl ch P W) (fun _ _ => False) s
theorem deed_rename_L :∀ w dp un gd s mg mb G a fl ch P W u sp t tk ts l l2 l3,deed_rename_Q w dp un gd s mg mb G a fl ch P W u sp t tk ts l l2 l3 :=by
  intro w dp un gd s mg mb G a fl ch P W u sp t tk ts l l2 l3
  delta deed_rename_Q
  intro gh st lv S hG tab g358 hch nch callee
  obtain ⟨ps,h358,hT⟩ :=tab
  refine wpAny_call ?_
  refine' enterCH (358 :: frs fl) gh st ?hG ?k8 ?k6 ?k7 ?k9 ?kB ?kD ?_ ?c2 ?c3 ?c4
  case hG => exact fun b hb => (List.mem_cons.mp hb).elim (fun e => e ▸ g358) (hG b)
  case k6 => k_is
  case k7 => k_is
  case k8 => exact lv_room lv
  case k9 => exact BindsTo.of_eq rfl
  case kB => exact rfl
  case kD => decide +kernel
  case c2 => exact rfl
  case c3 => exact rfl
  case c4 => exact rfl
  intro g L h₁ tk' cells loose mean F N Y X T sg kp bk hL st₁ nc
  obtain ⟨o1,o2,o3,o4,o5,o6,o7,rfl,d1,d2,d3,d4,d5,d6,d7⟩ :=CellsAre.seven Y
  clear Y
  have F :Fr g L h₁ (fun z => if z = Str.ofString "kind" then some (.int 7 tk) else none) :=F
  have gP :g.get? 358 = none :=by
    cases q :g.get? 358 with
    | none => rfl
    | some o => exact absurd List.mem_cons_self (bk _ _ q).2
  have hL358 :L ≠ 358 :=fun e => by rw [e,h358] at hL; cases hL
  dsimp only
  k_steps
  refine ⟨make_lam (c :=362) (P :=358) F T (code362 X) rfl (st₁ _ _ h358) (hT.keeps st₁) gP (by rfl) (by rfl) ?_⟩
  intro f c' ctv ps' h₂ tk₂ hx hP' hT' ho hrec hfn
  have F₂ :=frB F hx gP hL358
  dsimp only
  k_steps
  refine ⟨?_⟩
  have Iof :∀ env :Env,env.scope.kind = .function → env.frame = some L → Inner s G fl env h₁ :=fun env e1 e2 => Inner.of st S hG st₁ e1 e2 hL F.ns
  have st₂ :Stay G h₂ :=fun b o e => hx _ _ (fun q => by rw [q,g358] at e; cases e) (st₁ _ _ (st _ _ e))
  have n358 :∀ env :Env,env.frame = some L → (358 :Addr) ∉ frs (env :: fl) :=fun env e q => by
    rw [frs_cons e] at q
    rcases List.mem_cons.mp q with q | q
    · exact hL358 q.symm
    · obtain ⟨_,o,z,hd⟩ :=S.mem q
      rw [h358] at z; cases z
      exact hd _ rfl
  refine wpAny_mono (told_any (s :={ s with heap :=h₂,toks :=_ }) (ch :=ch) (P :=P) (W :=W) gh st₂ (lv_use lv (by decide)) (Stk.but (Iof _ rfl rfl).S hx (n358 _ rfl)) (Iof _ rfl rfl).hG ho ⟨_,rfl⟩ ?_) (fun v s' hv => deed_end rfl (Iof _ rfl rfl) h358 ⟨_,rfl⟩ hx hP' hT' S hch nch hv) fun _ _ e => e.elim
  intro env h₃ tk₃ I₃
  have st₃ :Stay G h₃ :=fun b o e => I₃.st _ _ (st₂ _ _ e)
  refine wpAny_call (enterL [] gh st₃ (fun _ h => nomatch h) (lv_room (lv_use (lv_use lv (by decide :18 + 1 ≤ 20)) (by decide :17 + 1 ≤ 18))) (I₃.st _ _ ho) (hrec.keeps I₃.st) rfl ?_ rfl rfl rfl (by decide))
  intro g₄ L₄ h₄ tk₄ lo me F₄ X₄ T₄ sg₄ kp₄ bk₄ hL₄ st₄
  have cellAt :∀ p ∈ [(L + 1 + 1 + 1 + 1 + 1 + 1 + 1,o1),(L + 1 + 1 + 1 + 1 + 1 + 1,o2),(L + 1 + 1 + 1 + 1 + 1,o3),(L + 1 + 1 + 1 + 1,o4),(L + 1 + 1 + 1,o5),(L + 1 + 1,o6),(L + 1,o7)],g₄.get? p.1 = some p.2 :=fun p hp => by
    refine kp₄ _ _ (I₃.st _ _ (hx _ _ (fun e => ?_) (N p hp).1)) (fun h => nomatch h)
    have :=nc p hp
    rw [e,h358] at this
    cases this
  have k1 :=cellAt (L + 1 + 1 + 1 + 1 + 1 + 1 + 1,o1) (by simp)
  have k2 :=cellAt (L + 1 + 1 + 1 + 1 + 1 + 1,o2) (by simp)
  have k3 :=cellAt (L + 1 + 1 + 1 + 1 + 1,o3) (by simp)
  have k4 :=cellAt (L + 1 + 1 + 1 + 1,o4) (by simp)
  have k5 :=cellAt (L + 1 + 1 + 1,o5) (by simp)
  have k6 :=cellAt (L + 1 + 1,o6) (by simp)
  have k7 :=cellAt (L + 1,o7) (by simp)
  clear F F₂ N cellAt
  dsimp only at k1 k2 k3 k4 k5 k6 k7 ⊢
  k_steps
  refine ⟨?_⟩
  have Iof₄ :∀ env' :Env,env'.scope.kind = .function → env'.frame = some L₄ → Inner { s with heap :=h₃,toks :=tk₃ } G _ env' h₄ :=fun env' e1 e2 => Inner.of st₃ I₃.S I₃.hG st₄ e1 e2 hL₄ F₄.ns
  refine lam_post (s :={ s with heap :=h₃,toks :=tk₃ }) (Iof₄ _ rfl rfl) rfl (callee _ _ (fun b o e => st₄ _ _ (st₃ _ _ e)) (fun b o e n => st₄ _ _ (I₃.st _ _ (hx _ _ n (st₁ _ _ e)))) (Iof₄ _ rfl rfl).S)
theorem deed_rename {u sp :Int} {t tk ts :Tok} {l l2 l3 :Addr} :deed_rename_Q w dp un gd s mg mb G a fl ch P W u sp t tk ts l l2 l3 :=deed_rename_L w dp un gd s mg mb G a fl ch P W u sp t tk ts l l2 l3
end
end
theorem kw102 :True :=by
  (k_with "mRangeRest" => (refine toStop ?_))
  (k_with "mcall ref" => (refine toStop ?_))
  (k_with "meval Lambda" => (refine toStop ?_))
  (k_with "meval Name" => (refine toStop ?_))
  (k_with "mexec For Tuple Call" => (refine toStop ?_))
  (k_with "msetItem ref int" => (refine toStop ?_))
  trivial
end
section
section
theorem kw103 :True :=by
  (k_with "msetItem ref int" => (k_extra "r8"))
  (k_with "mRangeRest" => (refine Wait.h ?_))
  (k_with "mexec For Tuple Call" => (k_extra "r6"))
  trivial
section
variable {w :World} {dp un :Nat} {fl :List Env} {gd :Option (List Code)} {s :Shared} {mg mb :Str → Option Value} {G :Heap} {news :List (Addr × Obj)} {a :DA} {ch :List Addr} {P :Value → Heap → Prop} {W :Str → Prop}
theorem kw104 :True :=by
  (k_with "meval Lambda" => (refine Wait.h ?_))
  (k_with "mcall ref" => (refine Wait.h ?_))
  (k_with "meval Name" => (k_extra "r3"))
  trivial
noncomputable abbrev deed_setattr_Q (w :World) (dp un :Nat) (gd :Option (List Code)) (s :Shared) (mg mb :Str → Option Value) (G :Heap) (a :DA) (fl :List Env) (ch :List Addr) (P :Value → Heap → Prop) (W :Str → Prop) (u kind sp :Int) (t tk ts :Tok) (l l2 l3 :Addr) (ws :List Value) (ps :List Int) (n :Nat) :Prop :=∀ (gh :GH w mg mb G) (st :Stay G s.heap) (lv :Lv dp un 20) (S :Stk s.heap fl) (hG :∀ a ∈ frs fl,G.get? a = none) (tab :TabIn 358 deedQ s.heap) (g358 :G.get? 358 = none) (hk :8 ≤ kind) (hl :s.heap.get? l = some (listOf ws.toArray n)) (hI :IntsAre ws ps) (hps :ps.length = 11) (hsp :0 ≤ sp ∧ sp < 140) (g_l :G.get? l = none) (hch :∀ b ∈ ch,∃ o,s.heap.get? b = some o ∧ ∀ vs,o.data ≠ .fields vs) (nch :∀ b ∈ ch,b ∉ frs fl) (callee :∀ fl' s' l9 ws9 n9,Stay G s'.heap → (∀ b o,s.heap.get? b = some o → b ≠ 358 → s'.heap.get? b = some o) → Stk s'.heap fl' → s'.heap.get? l9 = some (listOf ws9.toArray n9) → G.get? l9 = none → IntsAre ws9 (ps.take 8 ++ [Builtin.bitOr (ps.getD 8 0) (128 * sp.fmod 2)] ++ ps.drop 9) → wpAny (model PG w) (AR (dp + 3) (un + 9) (some fl') gd) (call (.ref 309) [.ref a.d,.int u t,.ref l9]) (ChG s' fl' ch P) (RaiseW s' fl' W) s'),wpAny (model rw_tg0048_01.row.prog w) (AR dp un (some fl) gd) (call (.ref 363) [.ref a.d,.int u t,.int kind tk,.ref l,.ref l2,.int sp ts,.ref l3]) (DeedG s fl ch P W) (fun _ _ => False) s
theorem deed_setattr_L :∀ w dp un gd s mg mb G a fl ch P W u kind sp t tk ts l l2 l3 ws ps n,deed_setattr_Q w dp un gd s mg mb G a fl ch P W u kind sp t tk ts l l2 l3 ws ps n :=by
  intro w dp un gd s mg mb G a fl ch P W u kind sp t tk ts l l2 l3 ws ps n
  delta deed_setattr_Q
  intro gh st lv S hG tab g358 hk hl hI hps hsp g_l hch nch callee
  obtain ⟨tps,h358,hT⟩ :=tab
  refine wpAny_call ?_
  refine' enterCH (358 :: frs fl) gh st ?hG ?k8 ?k6 ?k7 ?k9 ?kB ?kD ?_ ?c2 ?c3 ?c4
  case hG => exact fun b hb => (List.mem_cons.mp hb).elim (fun e => e ▸ g358) (hG b)
  case k6 => k_is
  case k7 => k_is
  case k8 => exact lv_room lv
  case k9 => exact BindsTo.of_eq rfl
  case kB => exact rfl
  case kD => decide +kernel
  case c2 => exact rfl
  case c3 => exact rfl
  case c4 => exact rfl
  intro g L h₁ tk' cells loose mean F N Y X T sg kp bk hL st₁ nc
  obtain ⟨o1,o2,o3,o4,o5,o6,o7,rfl,d1,d2,d3,d4,d5,d6,d7⟩ :=CellsAre.seven Y
  clear Y
  have F :Fr g L h₁ (fun z => if z = Str.ofString "kind" then some (.int kind tk) else none) :=F
  have gP :g.get? 358 = none :=by
    cases q :g.get? 358 with
    | none => rfl
    | some o => exact absurd List.mem_cons_self (bk _ _ q).2
  have hL358 :L ≠ 358 :=fun e => by rw [e,h358] at hL; cases hL
  have nf :∀ b ∈ 358 :: frs fl,b ≠ L :=fun b hb e => by
    rcases List.mem_cons.mp hb with rfl | hb
    · exact hL358 e.symm
    · obtain ⟨_,o,z,_⟩ :=S.mem hb
      rw [e,hL] at z; cases z
  have Nl :News g L h₁ (led g h₁ (358 :: frs fl)) :=led_news nf
  have lne :∀ p ∈ led g h₁ (358 :: frs fl),p.1 ≠ L + 1 + 1 + 1 + 1 + 1 + 1 + 1 :=fun p hp e => by
    obtain ⟨b,hm,q⟩ :=List.mem_filterMap.mp hp
    cases z :g.get? b with
    | some o => rw [z] at q; cases q
    | none =>
      rw [z] at q
      cases z' :h₁.get? b with
      | none => rw [z'] at q; cases q
      | some o =>
        rw [z'] at q; cases q
        have n1 :=nc (L + 1 + 1 + 1 + 1 + 1 + 1 + 1,o1) (by simp)
        rcases List.mem_cons.mp hm with e' | hm
        · rw [← e,e'] at n1
          rw [h358] at n1; cases n1
        · obtain ⟨_,o',z'',_⟩ :=S.mem hm
          rw [← e] at n1
          rw [n1] at z''; cases z''
  have at₁ :∀ h' m',Fr g L h' m' → News g L h' (led g h₁ (358 :: frs fl)) → ∀ b ∈ (358 :: frs fl),∀ o,h₁.get? b = some o → h'.get? b = some o :=fun h' m' F' N' b hm o e => led_at F F' N' hm e
  have N :News g L h₁ ((L + 1 + 1 + 1 + 1 + 1 + 1 + 1,o1) :: (L + 1 + 1 + 1 + 1 + 1 + 1,o2) :: (L + 1 + 1 + 1 + 1 + 1,o3) :: (L + 1 + 1 + 1 + 1,o4) :: (L + 1 + 1 + 1,o5) :: (L + 1 + 1,o6) :: (L + 1,o7) :: led g h₁ (358 :: frs fl)) :=fun p hp => by
    rcases List.mem_append.mp (show p ∈ [(L + 1 + 1 + 1 + 1 + 1 + 1 + 1,o1),(L + 1 + 1 + 1 + 1 + 1 + 1,o2),(L + 1 + 1 + 1 + 1 + 1,o3),(L + 1 + 1 + 1 + 1,o4),(L + 1 + 1 + 1,o5),(L + 1 + 1,o6),(L + 1,o7)] ++ led g h₁ (358 :: frs fl) from hp) with hp | hp
    · exact N p hp
    · exact Nl p hp
  clear Nl
  generalize led g h₁ (358 :: frs fl) = ld at N lne at₁
  dsimp only
  k_steps
  all_goals (try exact absurd (by assumption :kind = 6) (by omega))
  all_goals (try exact absurd (by assumption :kind = 7) (by omega))
  rename Fr _ _ _ _ => F1
  rename News _ _ _ _ => N1
  rename _ = Data.cell (some (Value.int _ _)) => dF
  rename Obj => o9
  rename Heap => h5
  have a1 :=at₁ _ _ F1 (News.sub N1 fun q hq => by simp [hq])
  have P1 :=a1 358 List.mem_cons_self _ (st₁ _ _ h358)
  have st1 :Stay s.heap h5 :=fun b o e => by
    by_cases hb :b ∈ 358 :: frs fl
    · exact a1 b hb _ (st₁ _ _ e)
    · exact F1.keep _ _ (kp _ _ e hb)
  have gl :∀ b ∈ [l],G.get? b = none :=fun b hb => by rw [List.mem_singleton.mp hb]; exact g_l
  have inC :∀ p ∈ [(L + 1 + 1 + 1 + 1 + 1 + 1 + 1,o9),(L + 1 + 1 + 1 + 1 + 1 + 1,o2),(L + 1 + 1 + 1 + 1 + 1,o3),(L + 1 + 1 + 1 + 1,o4),(L + 1 + 1 + 1,o5),(L + 1 + 1,o6),(L + 1,o7)],p ∈ (L + 1 + 1 + 1 + 1 + 1 + 1 + 1,o9) :: (L + 1 + 1 + 1 + 1 + 1 + 1,o2) :: (L + 1 + 1 + 1 + 1 + 1,o3) :: (L + 1 + 1 + 1 + 1,o4) :: (L + 1 + 1 + 1,o5) :: (L + 1 + 1,o6) :: (L + 1,o7) :: ld :=fun p hp => List.mem_append_left (bs :=ld) hp
  have nc' :∀ p ∈ [(L + 1 + 1 + 1 + 1 + 1 + 1 + 1,o9),(L + 1 + 1 + 1 + 1 + 1 + 1,o2),(L + 1 + 1 + 1 + 1 + 1,o3),(L + 1 + 1 + 1 + 1,o4),(L + 1 + 1 + 1,o5),(L + 1 + 1,o6),(L + 1,o7)],s.heap.get? p.1 = none :=fun p hp => by
    rcases List.mem_cons.mp hp with rfl | hp
    · exact nc (L + 1 + 1 + 1 + 1 + 1 + 1 + 1,o1) (by simp)
    · exact nc p (List.mem_cons_of_mem _ hp)
  refine ⟨make_lam (c :=362) (P :=358) F1 T (code362 X) rfl P1 (hT.keeps st1) gP (by rfl) (by rfl) ?_⟩
  intro f c' ctv ps' h₂ tk₂ hx hP' hT' ho hrec hfn
  have F₂ :=frB F1 hx gP hL358
  dsimp only
  k_steps
  refine ⟨?_⟩
  have Iof :∀ env :Env,env.scope.kind = .function → env.frame = some L → Inner s G fl env h5 :=fun env e1 e2 => Inner.of st S hG st1 e1 e2 hL F1.ns
  have st₂ :Stay G h₂ :=fun b o e => hx _ _ (fun q => by rw [q,g358] at e; cases e) (st1 _ _ (st _ _ e))
  have n358 :∀ env :Env,env.frame = some L → (358 :Addr) ∉ frs (env :: fl) :=fun env e q => by
    rw [frs_cons e] at q
    rcases List.mem_cons.mp q with q | q
    · exact hL358 q.symm
    · obtain ⟨_,o,z,hd⟩ :=S.mem q
      rw [h358] at z; cases z
      exact hd _ rfl
  refine wpAny_mono (told_any (s :={ s with heap :=h₂,toks :=_ }) (ch :=ch) (P :=P) (W :=W) gh st₂ (lv_use lv (by decide)) (Stk.but (Iof _ rfl rfl).S hx (n358 _ rfl)) (Iof _ rfl rfl).hG ho ⟨_,rfl⟩ ?_) (fun v s' hv => deed_end rfl (Iof _ rfl rfl) h358 ⟨_,rfl⟩ hx hP' hT' S hch nch hv) fun _ _ e => e.elim
  intro env h₃ tk₃ I₃
  have st₃ :Stay G h₃ :=fun b o e => I₃.st _ _ (st₂ _ _ e)
  refine wpAny_call (enterL [l] gh st₃ gl (lv_room (lv_use (lv_use lv (by decide :18 + 1 ≤ 20)) (by decide :17 + 1 ≤ 18))) (I₃.st _ _ ho) (hrec.keeps I₃.st) rfl ?_ rfl rfl rfl (by decide))
  intro g₄ L₄ h₄ tk₄ lo me F₄ X₄ T₄ sg₄ kp₄ bk₄ hL₄ st₄
  have cellAt :∀ p ∈ [(L + 1 + 1 + 1 + 1 + 1 + 1 + 1,o9),(L + 1 + 1 + 1 + 1 + 1 + 1,o2),(L + 1 + 1 + 1 + 1 + 1,o3),(L + 1 + 1 + 1 + 1,o4),(L + 1 + 1 + 1,o5),(L + 1 + 1,o6),(L + 1,o7)],g₄.get? p.1 = some p.2 :=fun p hp => by
    refine kp₄ _ _ (I₃.st _ _ (hx _ _ (fun e => ?_) (N1 p (inC p hp)).1)) (fun e => ?_)
    · have :=nc' p hp
      rw [e,h358] at this
      cases this
    · have :=nc' p hp
      rw [List.mem_singleton.mp e,hl] at this
      cases this
  have k1 :=cellAt (L + 1 + 1 + 1 + 1 + 1 + 1 + 1,o9) (by simp)
  have k2 :=cellAt (L + 1 + 1 + 1 + 1 + 1 + 1,o2) (by simp)
  have k3 :=cellAt (L + 1 + 1 + 1 + 1 + 1,o3) (by simp)
  have k4 :=cellAt (L + 1 + 1 + 1 + 1,o4) (by simp)
  have k5 :=cellAt (L + 1 + 1 + 1,o5) (by simp)
  have k6 :=cellAt (L + 1 + 1,o6) (by simp)
  have k7 :=cellAt (L + 1,o7) (by simp)
  have hl₃ :h₃.get? l = some (listOf ws.toArray n) :=I₃.st _ _ (hx _ _ (fun e => by rw [e,h358] at hl; cases hl) (st1 _ _ hl))
  have N₄ :News g₄ L₄ h₄ [(l,listOf ws.toArray n)] :=fun p hp => by
    rw [List.mem_singleton.mp hp]
    refine ⟨st₄ _ _ hl₃,fun e => ?_,?_⟩
    · have e :l = L₄ :=e
      have hL₄' :h₃.get? L₄ = none :=hL₄
      rw [← e,hl₃] at hL₄'; cases hL₄'
    · cases q :g₄.get? l with
      | none => rfl
      | some o => exact absurd List.mem_cons_self (bk₄ _ _ q).2
  clear F₂ N1 cellAt
  dsimp only at k1 k2 k3 k4 k5 k6 k7 ⊢
  k_steps
  refine ⟨?_⟩
  rename Fr _ _ _ _ => F5
  rename News _ _ _ _ => N5
  rename IntsAre _ _ => I5
  have inl :(l,listOf ws.toArray n) ∈ [(l,listOf ws.toArray n)] :=List.mem_cons_self
  have hD :=N5 _ List.mem_cons_self
  have hl5 :=N5 (l,listOf ws.toArray n) (by simp)
  have st5 :Stay h₃ _ :=fun b o e => by
    by_cases hb :b = l
    · subst hb
      rw [hl₃] at e; cases e
      exact hl5.1
    · exact F5.keep _ _ (kp₄ _ _ e (fun q => hb (List.mem_singleton.mp q)))
  have Iof₄ :∀ env' :Env,env'.scope.kind = .function → env'.frame = some L₄ → Inner { s with heap :=h₃,toks :=tk₃ } G _ env' _ :=fun env' e1 e2 => Inner.of st₃ I₃.S I₃.hG st5 e1 e2 hL₄ F5.ns
  have gD :∀ x,g₄.get? x = none → G.get? x = none :=fun x z => by
    cases q :G.get? x with
    | none => rfl
    | some o => rw [sg₄ _ _ q] at z; cases z
  refine lam_post (s :={ s with heap :=h₃,toks :=tk₃ }) (Iof₄ _ rfl rfl) rfl (callee _ _ _ _ _ (fun b o e => st5 _ _ (st₃ _ _ e)) (fun b o e n => st5 _ _ (I₃.st _ _ (hx _ _ n (st1 _ _ e)))) (Iof₄ _ rfl rfl).S hD.1 (gD _ hD.2.2) I5)
theorem deed_setattr {u kind sp :Int} {t tk ts :Tok} {l l2 l3 :Addr} {ws :List Value} {ps :List Int} {n :Nat} :deed_setattr_Q w dp un gd s mg mb G a fl ch P W u kind sp t tk ts l l2 l3 ws ps n :=deed_setattr_L w dp un gd s mg mb G a fl ch P W u kind sp t tk ts l l2 l3 ws ps n
end
end
theorem kw105 :True :=by
  (k_with "mRangeRest" => (refine toStop ?_))
  (k_with "mcall ref" => (refine toStop ?_))
  (k_with "meval Lambda" => (refine toStop ?_))
  (k_with "meval Name" => (refine toStop ?_))
  (k_with "mexec For Tuple Call" => (refine toStop ?_))
  (k_with "msetItem ref int" => (refine toStop ?_))
  trivial
end
section
section
theorem kw106 :True :=by
  (k_with "msetItem ref int" => (k_extra "r8"))
  (k_with "mRangeRest" => (refine Wait.h ?_))
  (k_with "mexec For Tuple Call" => (k_extra "r6"))
  trivial
theorem kw107 :True :=by
  (k_with "mcall ref" => (((with_reducible show wpAny _ _ (call (.ref 113) _) _ _ _); first | k_extra "q7" | k_dflt (k_extra "q7"))))
  (k_with "mcall ref" => (((with_reducible show wpAny _ _ (call (.ref 259) _) _ _ _); first | k_extra "q13" | k_dflt (k_extra "q13"))))
  (k_with "mcall ref" => (((with_reducible show wpAny _ _ (call (Value.ref 292) _) _ _ _); refine Wait.h ?_)))
  trivial
theorem pass_on {w :World} {A :Around} {fl :List Env} {env :Env} {g h₁ :Heap} {L :Addr} {m :Str → Option Value} {news news' :List (Addr × Obj)} {s :Shared} {word :Str} {tk' :Tok} {G :Heap} {R :Result → Shared → Prop} {t :Sem Value} {Q :Value → Shared → Prop}
    (F :Fr g L h₁ m) (N :News g L h₁ news') (kp :∀ b o,s.heap.get? b = some o → b ∉ news.map (·.1) → g.get? b = some o) (hn :HN G s.heap news) (hs :∀ p ∈ news,p ∈ news')
    (l1 :∀ p ∈ news,p.1 < L) (S :Stk s.heap fl) (hA :A.frames = some (env :: fl)) (hf :env.frame = some L) (hk :env.scope.kind ≠ .module)
    (hR :∀ e s',RaiseG s fl word e s' → R (.error e) s')
    (spec :Stk h₁ (env :: fl) → wpAny (model PG w) A t (fun _ _ => False) (RaiseG { s with heap :=h₁,toks :=tk' } (env :: fl) word) { s with heap :=h₁,toks :=tk' }) :
    wpAny (model PG w) A t Q (fun e s' => wpAny (model PG w) A (leaving env e) (fun _ s'' => R (.error e) s'') (fun e' s'' => R (.error e') s'') s') { s with heap :=h₁,toks :=tk' } :=by
  have st :=stay_of F N kp (fun p hp => (hn p hp).1) hs
  have hL :=newL F kp l1
  refine wpAny_mono (spec (Stk.deeper S st hk hf hL F.ns)) (fun _ _ x => x.elim) fun e s' hr => ?_
  obtain ⟨ea,tk,h',t',rfl,rfl,W⟩ :_ :=hr
  exact leave_next hA hf st hL W rfl fun h₃ W' => hR _ _ ⟨ea,tk,h₃,t',rfl,rfl,W'⟩
theorem Prs.flag {f :Nat → Option Ent} {ps :List PR} (h :Prs f 8 ps) (hf :∃ r ∈ rowsF f,128 ≤ r.2.raw.getD 8 0) :∃ p ∈ ps,128 ≤ p.e.raw.getD 8 0 :=by
  obtain ⟨r,hr,h8⟩ :_ :=hf
  rw [← h.rows8] at hr
  obtain ⟨p,hp,rfl⟩ :_ :=List.mem_map.mp hr
  exact ⟨p,hp,h8⟩
section
variable (w dp un gd s mg mb G news a vs D)
noncomputable abbrev delete_raise_Q (fl :List Env) (l n :Nat) (ws :List Value) (ps :List Int) (u :Int) (t :Tok) :Prop :=∀ (gh :GH w mg mb G) (st :Stay G s.heap) (hn :HN G s.heap news) (lv :Lv dp un 7) (S :Stk s.heap fl) (dm :DM w.params a vs D news) (q1 :(l,listOf ws.toArray n) ∈ news) (qI :IntsAre ws ps) (ql :ps.length = 11) (hu :u ≠ 229) (hf :∃ r ∈ rowsF (findF D u ps),128 ≤ r.2.raw.getD 8 0),wpAny (model rw_tg0048_01.row.prog w) (AR dp un (some fl) gd) (call (.ref 299) [.ref a.d,.int u t,.ref l]) (fun _ _ => False) (RaiseG s fl (Str.ofString "file read only")) s
end
theorem delete_raise_L :∀ w dp un gd s mg mb G news a vs D fl l n ws ps u t,delete_raise_Q w dp un gd s mg mb G news a vs D fl l n ws ps u t :=by
  intro w dp un gd s mg mb G news a vs D fl l n ws ps u t
  delta delete_raise_Q
  intro gh st hn lv S dm q1 qI ql hu hf
  have dm0 :=dm
  obtain ⟨m1,m2,m3,m4,hI,hl⟩ :=dm
  cell_enter
  k_steps
  rename Prs _ _ _ => hP
  refine ⟨?_⟩
  refine pass_on (R :=fun r s' => match r with | .ok (.ret v) => False | .ok _ => False | .error e => RaiseG s fl (Str.ofString "file read only") e s') (by k_asm) (by k_asm) (by assumption) hn (by ktr_rel) (by assumption) S rfl rfl (fun h => by cases h) (fun _ _ h => h) fun S' => ?_
  exact need_changeable_raise (by assumption) (by ktr_unf) (by ktr_units) (by ktr_room) S' List.mem_cons_self (fun q hq => List.mem_cons_of_mem _ (List.mem_append_left _ hq)) (Prs.ok hP) (Prs.len hP) (Prs.flag hP hf)
theorem delete_raise {fl :List Env} {l n :Nat} {ws :List Value} {ps :List Int} {u :Int} {t :Tok} :delete_raise_Q w dp un gd s mg mb G news a vs D fl l n ws ps u t :=delete_raise_L w dp un gd s mg mb G news a vs D fl l n ws ps u t
section
variable (w dp un gd s mg mb G news a vs D)
noncomputable abbrev rename_raise_Q (fl :List Env) (l n l2 n2 :Nat) (ws us :List Value) (ps xs :List Int) (u :Int) (t :Tok) :Prop :=∀ (gh :GH w mg mb G) (st :Stay G s.heap) (hn :HN G s.heap news) (lv :Lv dp un 7) (S :Stk s.heap fl) (dm :DM w.params a vs D news) (q1 :(l,listOf ws.toArray n) ∈ news) (qI :IntsAre ws ps) (ql :ps.length = 11) (r1 :(l2,listOf us.toArray n2) ∈ news) (hu :u ≠ 229) (hf :∃ r ∈ rowsF (findF D u ps),128 ≤ r.2.raw.getD 8 0),wpAny (model rw_tg0048_01.row.prog w) (AR dp un (some fl) gd) (call (.ref 304) [.ref a.d,.int u t,.ref l,.ref l2]) (fun _ _ => False) (RaiseG s fl (Str.ofString "file read only")) s
end
theorem rename_raise_L :∀ w dp un gd s mg mb G news a vs D fl l n l2 n2 ws us ps xs u t,rename_raise_Q w dp un gd s mg mb G news a vs D fl l n l2 n2 ws us ps xs u t :=by
  intro w dp un gd s mg mb G news a vs D fl l n l2 n2 ws us ps xs u t
  delta rename_raise_Q
  intro gh st hn lv S dm q1 qI ql r1 hu hf
  have dm0 :=dm
  obtain ⟨m1,m2,m3,m4,hI,hl⟩ :=dm
  cell_enter
  k_steps
  rename Prs _ _ _ => hP
  refine ⟨?_⟩
  refine pass_on (R :=fun r s' => match r with | .ok (.ret v) => False | .ok _ => False | .error e => RaiseG s fl (Str.ofString "file read only") e s') (by k_asm) (by k_asm) (by assumption) hn (by ktr_rel) (by assumption) S rfl rfl (fun h => by cases h) (fun _ _ h => h) fun S' => ?_
  exact need_changeable_raise (by assumption) (by ktr_unf) (by ktr_units) (by ktr_room) S' List.mem_cons_self (fun q hq => List.mem_cons_of_mem _ (List.mem_append_left _ hq)) (Prs.ok hP) (Prs.len hP) (Prs.flag hP hf)
theorem rename_raise {fl :List Env} {l n l2 n2 :Nat} {ws us :List Value} {ps xs :List Int} {u :Int} {t :Tok} :rename_raise_Q w dp un gd s mg mb G news a vs D fl l n l2 n2 ws us ps xs u t :=rename_raise_L w dp un gd s mg mb G news a vs D fl l n l2 n2 ws us ps xs u t
section
variable (w dp un gd s mg mb G news a vs D)
noncomputable abbrev write_at_raise_Q (fl :List Env) (l n l2 :Nat) (ws :List Value) (ps :List Int) (u i :Int) (t t' :Tok) :Prop :=∀ (gh :GH w mg mb G) (st :Stay G s.heap) (hn :HN G s.heap news) (lv :Lv dp un 12) (S :Stk s.heap fl) (dm :DM w.params a vs D news) (q1 :(l,listOf ws.toArray n) ∈ news) (qI :IntsAre ws ps) (ql :ps.length = 11) (hu :u ≠ 229) (hf :∃ r ∈ rowsF (findF D u ps),128 ≤ r.2.raw.getD 8 0),wpAny (model rw_tg0048_01.row.prog w) (AR dp un (some fl) gd) (call (.ref 335) [.ref a.d,.int u t,.ref l,.int i t',.ref l2]) (fun _ _ => False) (RaiseG s fl (Str.ofString "file read only")) s
end
theorem write_at_raise_L :∀ w dp un gd s mg mb G news a vs D fl l n l2 ws ps u i t t',write_at_raise_Q w dp un gd s mg mb G news a vs D fl l n l2 ws ps u i t t' :=by
  intro w dp un gd s mg mb G news a vs D fl l n l2 ws ps u i t t'
  delta write_at_raise_Q
  intro gh st hn lv S dm q1 qI ql hu hf
  have dm0 :=dm
  obtain ⟨m1,m2,m3,m4,hI,hl⟩ :=dm
  cell_enter
  k_steps
  rename Prs _ _ _ => hP
  refine ⟨?_⟩
  refine pass_on (R :=fun r s' => match r with | .ok (.ret v) => False | .ok _ => False | .error e => RaiseG s fl (Str.ofString "file read only") e s') (by k_asm) (by k_asm) (by assumption) hn (by ktr_rel) (by assumption) S rfl rfl (fun h => by cases h) (fun _ _ h => h) fun S' => ?_
  exact need_changeable_raise (by assumption) (by ktr_unf) (by ktr_units) (by ktr_room) S' List.mem_cons_self (fun q hq => List.mem_cons_of_mem _ (List.mem_append_left _ hq)) (Prs.ok hP) (Prs.len hP) (Prs.flag hP hf)
theorem write_at_raise {fl :List Env} {l n l2 :Nat} {ws :List Value} {ps :List Int} {u i :Int} {t t' :Tok} :write_at_raise_Q w dp un gd s mg mb G news a vs D fl l n l2 ws ps u i t t' :=write_at_raise_L w dp un gd s mg mb G news a vs D fl l n l2 ws ps u i t t'
end
theorem kw108 :True :=by
  (k_with "mRangeRest" => (refine toStop ?_))
  (k_with "mcall ref" => (refine toStop ?_))
  (k_with "mexec For Tuple Call" => (refine toStop ?_))
  (k_with "msetItem ref int" => (refine toStop ?_))
  trivial
end
section
section
theorem kw109 :True :=by
  (k_with "msetItem ref int" => (k_extra "r8"))
  (k_with "mRangeRest" => (refine Wait.h ?_))
  (k_with "mexec For Tuple Call" => (k_extra "r6"))
  trivial
theorem kw110 :True :=by
  (k_with "mcall ref" => (((with_reducible show wpAny _ _ (call (.ref 113) _) _ _ _); first | k_extra "q7" | k_dflt (k_extra "q7"))))
  (k_with "mcall ref" => (((with_reducible show wpAny _ _ (call (.ref 259) _) _ _ _); first | k_extra "q13" | k_dflt (k_extra "q13"))))
  (k_with "mcall ref" => (((with_reducible show wpAny _ _ (call (.ref 316) _) _ _ _); first | k_extra "q29" | k_dflt (k_extra "q29"))))
  (k_with "mcall ref" => (((with_reducible show wpAny _ _ (call (.ref 266) _) _ _ _); first | k_extra "q30" | k_dflt (k_extra "q30"))))
  (k_with "mcall ref" => (((with_reducible show wpAny _ _ (call (.ref 292) _) _ _ _); first | k_extra "q22" | k_dflt (k_extra "q22"))))
  trivial
theorem exists_none {l n :Nat} {ws :List Value} {ps :List Int} {u :Int} {t :Tok} (gh :GH w mg mb G) (st :Stay G s.heap) (hn :HN G s.heap news) (lv :Lv dp un 7) (dm :DM w.params a vs D news) (q1 :(l,listOf ws.toArray n) ∈ news) (qI :IntsAre ws ps) (ql :ps.length = 11) (hu :u ≠ 229) (hx :rowsF (findF D u ps) = []) :
    wpAny (model rw_tg0048_01.row.prog w) (AR dp un fr gd) (call (.ref 273) [.ref a.d,.int u t,.ref l]) (RetG s news (IsB false)) (fun _ _ => False) s :=by
  have h :=exists_ok (w :=w) (dp :=dp) (un :=un) (fr :=fr) (gd :=gd) (t :=t) gh st hn lv dm q1 qI ql hu
  rw [hx] at h
  exact h
theorem kw111 :True :=by
  (k_with "q39" => ((refine useV (exists_none (by assumption) (by ktr_unf) (by ktr_units) (by ktr_room) (by tb_rel) (by k_mem) (by assumption) (by assumption) (by assumption) (by assumption)) (by k_asm) (by k_asm) ?_; kst_mem)))
  (k_with "mcall ref" => (((with_reducible show wpAny _ _ (call (.ref 273) _) _ _ _); first | k_extra "q39" | k_dflt (k_extra "q39"))))
  (k_with "mcall ref" => (k_extra "r1"))
  (k_with "mexec Raise some none" => (refine Raise_own rfl ?_))
  trivial
section
variable (w dp un gd s mg mb G news a vs D)
noncomputable abbrev write_at_nofile_Q (fl :List Env) (l n l2 :Nat) (ws :List Value) (ps :List Int) (u i :Int) (t t' :Tok) :Prop :=∀ (gh :GH w mg mb G) (st :Stay G s.heap) (hn :HN G s.heap news) (lv :Lv dp un 12) (S :Stk s.heap fl) (dm :DM w.params a vs D news) (q1 :(l,listOf ws.toArray n) ∈ news) (qI :IntsAre ws ps) (ql :ps.length = 11) (hu :u ≠ 229) (i0 :0 ≤ i) (i1 :i < 140) (hr :rowsF (findF D u ps) = []),wpAny (model rw_tg0048_01.row.prog w) (AR dp un (some fl) gd) (call (.ref 335) [.ref a.d,.int u t,.ref l,.int i t',.ref l2]) (fun _ _ => False) (RaiseG s fl (Str.ofString "no file")) s
end
theorem write_at_nofile_L :∀ w dp un gd s mg mb G news a vs D fl l n l2 ws ps u i t t',write_at_nofile_Q w dp un gd s mg mb G news a vs D fl l n l2 ws ps u i t t' :=by
  intro w dp un gd s mg mb G news a vs D fl l n l2 ws ps u i t t'
  delta write_at_nofile_Q
  intro gh st hn lv S dm q1 qI ql hu i0 i1 hr
  have dm0 :=dm
  have hx :firstX (findF D u ps) (i / 64) = none :=by
    unfold firstX
    rw [hr]
    rfl
  have hf :∀ r ∈ rowsF (findF D u ps),r.2.raw.getD 8 0 < 128 :=by rw [hr]; exact fun _ h => nomatch h
  obtain ⟨m1,m2,m3,m4,hI,hl⟩ :=dm
  cell_enter
  k_steps
  refine ⟨?_⟩
  have lv2 :=lv.1
  refine raise_here (R :=fun r s' => match r with | .ok (.ret v) => False | .ok _ => False | .error e => RaiseG s fl (Str.ofString "no file") e s') (by assumption) (by assumption) S (by k_asm) (by k_asm) (by assumption) hn (by ktr_rel) (by assumption) rfl rfl (fun h => by cases h) ?_ (fun _ _ h => h)
  show dp + 1 + 1 < 1000
  omega
theorem write_at_nofile {fl :List Env} {l n l2 :Nat} {ws :List Value} {ps :List Int} {u i :Int} {t t' :Tok} :write_at_nofile_Q w dp un gd s mg mb G news a vs D fl l n l2 ws ps u i t t' :=write_at_nofile_L w dp un gd s mg mb G news a vs D fl l n l2 ws ps u i t t'
end
theorem kw112 :True :=by
  (k_with "mRangeRest" => (refine toStop ?_))
  (k_with "mcall ref" => (refine toStop ?_))
  (k_with "mexec For Tuple Call" => (refine toStop ?_))
  (k_with "mexec Raise some none" => (refine toStop ?_))
  (k_with "msetItem ref int" => (refine toStop ?_))
  trivial
end
section
section
theorem kw113 :True :=by
  (k_with "msetItem ref int" => (k_extra "r8"))
  (k_with "mRangeRest" => (refine Wait.h ?_))
  (k_with "mexec For Tuple Call" => (k_extra "r6"))
  trivial
inductive Told where
  | int (n :Nat)
  | none
  | word (w :Str)
deriving Inhabited
noncomputable def IsTold :Told → Value → Prop
  | .int n,r => ∃ t,r = .int (n :Nat) t
  | .none,r => r = .none
  | .word x,r => ∃ t,r = .str x t
noncomputable def Flag (D :List Int) (u :Int) (ps :List Int) :Prop :=∃ r ∈ rowsF (findF D u ps),128 ≤ r.2.raw.getD 8 0
noncomputable def NoFlag (D :List Int) (u :Int) (ps :List Int) :Prop :=∀ r ∈ rowsF (findF D u ps),r.2.raw.getD 8 0 < 128
noncomputable abbrev attrRaw (ps :List Int) (sp :Int) :List Int :=ps.take 8 ++ [Builtin.bitOr (ps.getD 8 0) (128 * sp.fmod 2)] ++ ps.drop 9
noncomputable abbrev bareL (ps :List Int) :List Int :=ps.map fun x => Builtin.bitAnd x 127
inductive DeedRel (D :List Int) (u kind :Int) (ps xs :List Int) (sp :Int) (oc :List Int) :Told → List Int → Prop
  | make {k :Nat} :kind < 2 → freeE D = some k → DeedRel D u kind ps xs sp oc (.int k) (lay D (32 * k) (entOcts (newE u ps 0)))
  | write {num :Nat} {e1 :Ent} {D1 :List Int} {b :Int} {mp :List Int} :2 ≤ kind → kind < 6 → NoFlag D u ps → WRow D u ps sp num e1 D1 → WSlot D1 u ps e1 ((sp % 64).fdiv 4) b mp → 0 ≤ b → b < 11 → 0 ≤ e1.ct ∧ e1.ct < 256 →
      DeedRel D u kind ps xs sp oc .none (lay (lay D1 (128 * b.toNat + 32 * ((sp % 64).fmod 4).toNat) oc) (32 * num) (entOcts { e1 with map :=mp,ct :=max e1.ct (sp % 64 + 1) }))
  | writeFlag :2 ≤ kind → kind < 6 → Flag D u ps → DeedRel D u kind ps xs sp oc (.word (Str.ofString "file read only")) D
  | writeNone :2 ≤ kind → kind < 6 → rowsF (findF D u ps) = [] → DeedRel D u kind ps xs sp oc (.word (Str.ofString "no file")) D
  | delete :kind = 6 → NoFlag D u ps → DeedRel D u kind ps xs sp oc (.int (rowsF (findF D u ps)).length) (eraseAll D (rowsF (findF D u ps)))
  | deleteFlag :kind = 6 → Flag D u ps → DeedRel D u kind ps xs sp oc (.word (Str.ofString "file read only")) D
  | rename :kind = 7 → NoFlag D u ps → DeedRel D u kind ps xs sp oc (.int (rowsF (findF D u ps)).length) (editAll (nameRaw xs) D (rowsF (findF D u ps)))
  | renameFlag :kind = 7 → Flag D u ps → DeedRel D u kind ps xs sp oc (.word (Str.ofString "file read only")) D
  | attrs :8 ≤ kind → DeedRel D u kind ps xs sp oc (.int (rowsF (findF D u (bareL (attrRaw ps sp)))).length) (editAll (flagRaw (attrRaw ps sp)) D (rowsF (findF D u (bareL (attrRaw ps sp)))))
theorem mut_chg {s s' :Shared} {fl :List Env} {news :List (Addr × Obj)} {l :Addr} {P :Value → Obj → List (Addr × Obj) → Prop} {P' :Value → Heap → Prop} {r :Value} (h :MutG s news l P r s') (k :∀ r o tl h',P r o tl → h'.get? l = some o → P' r h') :ChG s fl [l] P' r s' :=by
  obtain ⟨h',tk,tl,o,e,st,hl,_,hP⟩ :_ :=h
  exact ⟨h',tk,e,fun b ob z n _ => st b ob z (fun q => n (q ▸ List.mem_cons_self)),fun b ob z _ n => ⟨ob.slots,st b ob z (fun q => n (q ▸ List.mem_cons_self))⟩,k _ _ _ _ hP hl⟩
noncomputable def DeedP (a :DA) (T :Told) (D' :List Int) (r :Value) (h :Heap) :Prop :=IsTold T r ∧ ∃ vs' :List Value,h.get? a.l = some (listOf vs'.toArray a.n) ∧ IntsAre vs' D'
section
variable {w :World} {dp un :Nat} {fl :List Env} {gd :Option (List Code)} {s :Shared} {mg mb :Str → Option Value} {G :Heap} {news :List (Addr × Obj)} {a :DA} {vs :List Value} {D :List Int}
noncomputable abbrev deed_ok_Q (w :World) (dp un :Nat) (gd :Option (List Code)) (s :Shared) (mg mb :Str → Option Value) (G :Heap) (news :List (Addr × Obj)) (a :DA) (vs :List Value) (D :List Int) (fl :List Env) (u kind sp :Int) (t tk ts :Tok) (l l2 l3 n n2 n3 :Addr) (ws us os :List Value) (ps xs oc :List Int) (T :Told) (D' :List Int) :Prop :=∀ (gh :GH w mg mb G) (st :Stay G s.heap) (hn :HN G s.heap news) (lv :Lv dp un 20) (S :Stk s.heap fl) (hG :∀ a ∈ frs fl,G.get? a = none) (tab :TabIn 358 deedQ s.heap) (g358 :G.get? 358 = none) (n358 :∀ p ∈ news,p.1 ≠ 358) (dm :DM w.params a vs D news) (q1 :(l,listOf ws.toArray n) ∈ news) (qI :IntsAre ws ps) (ql :ps.length = 11) (q2 :(l2,listOf us.toArray n2) ∈ news) (rI :IntsAre us xs) (rl :xs.length = 11) (q3 :(l3,listOf os.toArray n3) ∈ news) (oI :IntsAre os oc) (ol :oc.length = 32) (hu :0 ≤ u ∧ u < 2) (hsp :0 ≤ sp ∧ sp < 140) (k0 :0 ≤ kind) (nfr :a.l ∉ frs fl) (R :DeedRel D u kind ps xs sp oc T D'),wpAny (model rw_tg0048_01.row.prog w) (AR dp un (some fl) gd) (call (.ref 363) [.ref a.d,.int u t,.int kind tk,.ref l,.ref l2,.int sp ts,.ref l3]) (ChG s fl [358,a.l] fun r h => TabIn 358 deedQ h ∧ DeedP a T D' r h) (fun _ _ => False) s
theorem deed_ok_L :∀ w dp un gd s mg mb G news a vs D fl u kind sp t tk ts l l2 l3 n n2 n3 ws us os ps xs oc T D',deed_ok_Q w dp un gd s mg mb G news a vs D fl u kind sp t tk ts l l2 l3 n n2 n3 ws us os ps xs oc T D' :=by
  refine ei8 (h :=?_)
  generalize (ep8 _).1 = w
  generalize (ep8 _).2.1 = dp
  generalize (ep8 _).2.2.1 = un
  generalize (ep8 _).2.2.2.1 = gd
  generalize (ep8 _).2.2.2.2.1 = s
  generalize (ep8 _).2.2.2.2.2.1 = mg
  generalize (ep8 _).2.2.2.2.2.2.1 = mb
  generalize (ep8 _).2.2.2.2.2.2.2 = G
  refine ei8 (h :=?_)
  generalize (ep8 _).1 = news
  generalize (ep8 _).2.1 = a
  generalize (ep8 _).2.2.1 = vs
  generalize (ep8 _).2.2.2.1 = D
  generalize (ep8 _).2.2.2.2.1 = fl
  generalize (ep8 _).2.2.2.2.2.1 = u
  generalize (ep8 _).2.2.2.2.2.2.1 = kind
  generalize (ep8 _).2.2.2.2.2.2.2 = sp
  refine ei8 (h :=?_)
  generalize (ep8 _).1 = t
  generalize (ep8 _).2.1 = tk
  generalize (ep8 _).2.2.1 = ts
  generalize (ep8 _).2.2.2.1 = l
  generalize (ep8 _).2.2.2.2.1 = l2
  generalize (ep8 _).2.2.2.2.2.1 = l3
  generalize (ep8 _).2.2.2.2.2.2.1 = n
  generalize (ep8 _).2.2.2.2.2.2.2 = n2
  refine ei8 (h :=?_)
  generalize (ep8 _).1 = n3
  generalize (ep8 _).2.1 = ws
  generalize (ep8 _).2.2.1 = us
  generalize (ep8 _).2.2.2.1 = os
  generalize (ep8 _).2.2.2.2.1 = ps
  generalize (ep8 _).2.2.2.2.2.1 = xs
  generalize (ep8 _).2.2.2.2.2.2.1 = oc
  generalize (ep8 _).2.2.2.2.2.2.2 = T
  refine ei1 (h :=?_)
  generalize (ep1 _) = D'
  delta deed_ok_Q
  intros gh st hn lv S hG tab g358 n358 dm q1 qI ql q2 rI rl q3 oI ol hu hsp k0 nfr R
  have hu9 :u ≠ 229 :=by omega
  have hl :=hn _ dm.m4
  have hch :∀ b ∈ [a.l],∃ o,s.heap.get? b = some o ∧ ∀ vs,o.data ≠ .fields vs :=fun b hb => by
    rw [List.mem_singleton.mp hb]
    exact ⟨_,hl.1,fun _ e => by cases e⟩
  have nch :∀ b ∈ [a.l],b ∉ frs fl :=fun b hb => by rw [List.mem_singleton.mp hb]; exact nfr
  have HN' :∀ s' :Shared,(∀ b o,s.heap.get? b = some o → b ≠ 358 → s'.heap.get? b = some o) → HN G s'.heap news :=fun s' k p hp => ⟨k _ _ (hn p hp).1 (n358 p hp),(hn p hp).2⟩
  have fin :∀ {T :Told} {D' :List Int} {W :Str → Prop} {r :Value} {s' :Shared},(∀ x,W x → T = .word x ∧ D' = D) → DeedG s fl [a.l] (DeedP a T D') W r s' → ChG s fl [358,a.l] (fun r h => TabIn 358 deedQ h ∧ DeedP a T D' r h) r s' :=by
    rintro T D' W r s' hW ⟨h',tk',e,c1,c2,c3,c4⟩
    refine ⟨h',tk',e,c1,c2,c3,?_⟩
    rcases c4 with c4 | ⟨⟨x,tx,hx,rfl⟩,c4⟩
    · exact c4
    · obtain ⟨rfl,rfl⟩ :_ :=hW x hx
      exact ⟨⟨tx,rfl⟩,vs,c4 _ List.mem_cons_self _ hl.1,dm.hI⟩
  have finW :∀ {x :Str} {r :Value} {s' :Shared},DeedG s fl [a.l] (fun _ _ => False) (fun y => y = x) r s' → ChG s fl [358,a.l] (fun r h => TabIn 358 deedQ h ∧ DeedP a (.word x) D r h) r s' :=by
    rintro x r s' ⟨h',tk',e,c1,c2,c3,c4⟩
    refine ⟨h',tk',e,c1,c2,c3,?_⟩
    rcases c4 with c4 | ⟨⟨y,tx,rfl,rfl⟩,c4⟩
    · exact c4.elim
    · exact ⟨⟨tx,rfl⟩,vs,c4 _ List.mem_cons_self _ hl.1,dm.hI⟩
  have laysI :∀ {k :Nat} {D' :List Int} (r :Value) (o :Obj) (tl :List (Addr × Obj)) (h' :Heap),LaysI a.n k D' r o tl → h'.get? a.l = some o → DeedP a (.int k) D' r h' :=by
    rintro k D' r o tl h' ⟨⟨t,rfl⟩,_,vs',rfl,hI⟩ e
    exact ⟨⟨t,rfl⟩,vs',e,hI⟩
  have lays :∀ {D' :List Int} (r :Value) (o :Obj) (tl :List (Addr × Obj)) (h' :Heap),Lays a.n D' r o tl → h'.get? a.l = some o → DeedP a .none D' r h' :=by
    rintro D' r o tl h' ⟨rfl,_,vs',rfl,hI⟩ e
    exact ⟨rfl,vs',e,hI⟩
  have lv7 :∀ k,k ≤ 12 → Lv (dp + 3) (un + 9) k :=fun k hk => ⟨by have :=lv.1; omega,by have :=lv.2; omega⟩
  cases R with
  | make hk hf =>
    refine wpAny_mono (deed_make (W :=fun _ => False) (ch :=[a.l]) gh st lv S hG tab g358 hk hch nch fun fl' s' st' k' S' => ?_) (fun r s' h => fin (fun _ x => x.elim) h) fun _ _ e => e
    exact wpAny_mono (make_ok gh st' (HN' _ k') (lv7 7 (by omega)) dm q1 qI ql hf) (fun r s' h => mut_chg h fun r o tl h' p e => laysI r o tl h' p e) fun _ _ e => e.elim
  | write hk hk2 nf hrow hslot b0 b1 hct =>
    refine wpAny_mono (deed_write (W :=fun _ => False) (ch :=[a.l]) gh st lv S hG tab g358 hk hk2 hch nch fun fl' s' st' k' S' => ?_) (fun r s' h => fin (fun _ x => x.elim) h) fun _ _ e => e
    exact wpAny_mono (write_at_ok gh st' (HN' _ k') (lv7 12 (by omega)) dm q1 qI ql q3 oI ol hu9 hsp.1 hsp.2 nf hrow hslot b0 b1 hct rfl) (fun r s' h => mut_chg h fun r o tl h' p e => lays r o tl h' p e) fun _ _ e => e.elim
  | writeFlag hk hk2 hf =>
    refine wpAny_mono (deed_write (W :=fun x => x = Str.ofString "file read only") (P :=fun _ _ => False) (ch :=[a.l]) gh st lv S hG tab g358 hk hk2 hch nch fun fl' s' st' k' S' => ?_) (fun r s' h => finW h) fun _ _ e => e
    exact wpAny_mono (write_at_raise gh st' (HN' _ k') (lv7 12 (by omega)) S' dm q1 qI ql hu9 hf) (fun _ _ x => x.elim) (fun e s' h => ⟨_,rfl,h⟩)
  | writeNone hk hk2 hf =>
    refine wpAny_mono (deed_write (W :=fun x => x = Str.ofString "no file") (P :=fun _ _ => False) (ch :=[a.l]) gh st lv S hG tab g358 hk hk2 hch nch fun fl' s' st' k' S' => ?_) (fun r s' h => finW h) fun _ _ e => e
    exact wpAny_mono (write_at_nofile gh st' (HN' _ k') (lv7 12 (by omega)) S' dm q1 qI ql hu9 hsp.1 hsp.2 hf) (fun _ _ x => x.elim) (fun e s' h => ⟨_,rfl,h⟩)
  | delete hk nf =>
    subst hk
    refine wpAny_mono (deed_delete (W :=fun _ => False) (ch :=[a.l]) gh st lv S hG tab g358 hch nch fun fl' s' st' k' S' => ?_) (fun r s' h => fin (fun _ x => x.elim) h) fun _ _ e => e
    exact wpAny_mono (delete_ok gh st' (HN' _ k') (lv7 7 (by omega)) dm q1 qI ql hu9 nf) (fun r s' h => mut_chg h fun r o tl h' p e => laysI r o tl h' p e) fun _ _ e => e.elim
  | deleteFlag hk hf =>
    subst hk
    refine wpAny_mono (deed_delete (W :=fun x => x = Str.ofString "file read only") (P :=fun _ _ => False) (ch :=[a.l]) gh st lv S hG tab g358 hch nch fun fl' s' st' k' S' => ?_) (fun r s' h => finW h) fun _ _ e => e
    exact wpAny_mono (delete_raise gh st' (HN' _ k') (lv7 7 (by omega)) S' dm q1 qI ql hu9 hf) (fun _ _ x => x.elim) (fun e s' h => ⟨_,rfl,h⟩)
  | rename hk nf =>
    subst hk
    refine wpAny_mono (deed_rename (W :=fun _ => False) (ch :=[a.l]) gh st lv S hG tab g358 hch nch fun fl' s' st' k' S' => ?_) (fun r s' h => fin (fun _ x => x.elim) h) fun _ _ e => e
    exact wpAny_mono (rename_ok gh st' (HN' _ k') (lv7 7 (by omega)) dm q1 qI ql q2 rI rl hu9 nf) (fun r s' h => mut_chg h fun r o tl h' p e => laysI r o tl h' p e) fun _ _ e => e.elim
  | renameFlag hk hf =>
    subst hk
    refine wpAny_mono (deed_rename (W :=fun x => x = Str.ofString "file read only") (P :=fun _ _ => False) (ch :=[a.l]) gh st lv S hG tab g358 hch nch fun fl' s' st' k' S' => ?_) (fun r s' h => finW h) fun _ _ e => e
    exact wpAny_mono (rename_raise (xs :=xs) gh st' (HN' _ k') (lv7 7 (by omega)) S' dm q1 qI ql q2 hu9 hf) (fun _ _ x => x.elim) (fun e s' h => ⟨_,rfl,h⟩)
  | attrs hk =>
    refine wpAny_mono (deed_setattr (W :=fun _ => False) (ch :=[a.l]) gh st lv S hG tab g358 hk (hn _ q1).1 qI ql hsp (hn _ q1).2 hch nch fun fl' s' l9 ws9 n9 st' k' S' hl9 g9 I9 => ?_) (fun r s' h => fin (fun _ x => x.elim) h) fun _ _ e => e
    have hn9 :HN G s'.heap ((l9,listOf ws9.toArray n9) :: news) :=fun p hp => by
      rcases List.mem_cons.mp hp with rfl | hp
      · exact ⟨hl9,g9⟩
      · exact HN' _ k' p hp
    have al :(attrRaw ps sp).length = 11 :=by simp [attrRaw,ql]
    exact wpAny_mono (set_attributes_ok gh st' hn9 (lv7 7 (by omega)) (dm.mono fun p hp => List.mem_cons_of_mem _ hp) List.mem_cons_self I9 al hu9) (fun r s' h => mut_chg h fun r o tl h' p e => laysI r o tl h' p e) fun _ _ e => e.elim
theorem deed_ok {u kind sp :Int} {t tk ts :Tok} {l l2 l3 n n2 n3 :Addr} {ws us os :List Value} {ps xs oc :List Int} {T :Told} {D' :List Int} :deed_ok_Q w dp un gd s mg mb G news a vs D fl u kind sp t tk ts l l2 l3 n n2 n3 ws us os ps xs oc T D' :=deed_ok_L w dp un gd s mg mb G news a vs D fl u kind sp t tk ts l l2 l3 n n2 n3 ws us os ps xs oc T D'
end
end
theorem kw114 :True :=by
  (k_with "mRangeRest" => (refine toStop ?_))
  (k_with "mexec For Tuple Call" => (refine toStop ?_))
  (k_with "msetItem ref int" => (refine toStop ?_))
  trivial
end
section
section
theorem kw115 :True :=by
  (k_with "msetItem ref int" => (k_extra "r8"))
  (k_with "mRangeRest" => (refine Wait.h ?_))
  (k_with "mexec For Tuple Call" => (k_extra "r6"))
  trivial
noncomputable def nmA :List Int :=[65,32,32,32,32,32,32,32,32,32,32]
noncomputable def nmB :List Int :=[66,49,32,32,32,32,32,32,67,79,77]
noncomputable def nmC :List Int :=[90,90,90,90,90,90,90,90,32,32,32]
noncomputable def IsNames (r :Value) (tl :List (Addr × Obj)) :Prop :=∃ (x a b c n na nb nc :Nat) (wa wb wc :List Value),r = .ref x ∧ tl = [(x,listOf [Value.ref a,.ref b,.ref c].toArray n),(a,listOf wa.toArray na),(b,listOf wb.toArray nb),(c,listOf wc.toArray nc)] ∧ IntsAre wa nmA ∧ IntsAre wb nmB ∧ IntsAre wc nmC
structure NL where
  x :Nat
  a :Nat
  b :Nat
  c :Nat
  n :Nat
  na :Nat
  nb :Nat
  nc :Nat
  wa :List Value
  wb :List Value
  wc :List Value
deriving Inhabited
noncomputable abbrev nNews (q :NL) :List (Addr × Obj) :=[(q.x,listOf [Value.ref q.a,.ref q.b,.ref q.c].toArray q.n),(q.a,listOf q.wa.toArray q.na),(q.b,listOf q.wb.toArray q.nb),(q.c,listOf q.wc.toArray q.nc)]
theorem useN {M :Model} {A :Around} {E :Value → Shared → Prop} {s :Shared} {g :Heap} {L :Addr} {m :Str → Option Value} {news :List (Addr × Obj)} {t :Sem Value} {Q :Value → Shared → Prop} (spec :wpAny M A t (RetG s news IsNames) (fun _ _ => False) s) (F :Fr g L s.heap m) (N :News g L s.heap news)
    (k :∀ (q :NL) h' tk,Fr g L h' m → News g L h' ((q.x,listOf [Value.ref q.a,.ref q.b,.ref q.c].toArray q.n) :: (q.a,listOf q.wa.toArray q.na) :: (q.b,listOf q.wb.toArray q.nb) :: (q.c,listOf q.wc.toArray q.nc) :: news) → IntsAre q.wa nmA → IntsAre q.wb nmB → IntsAre q.wc nmC → (∀ p ∈ nNews q,∀ r ∈ news,r.1 ≠ p.1) → Q (.ref q.x) { s with heap :=h',toks :=tk }) :wpAny M A t Q E s :=
  useG spec F N fun r tl h' tk hP F' N' lt => by rcases hP with ⟨x,a,b,c,n,na,nb,nc,wa,wb,wc,e1,e2,h1,h2,h3⟩; subst e1; subst e2; exact k ⟨x,a,b,c,n,na,nb,nc,wa,wb,wc⟩ h' tk F' N' h1 h2 h3 lt
theorem retNames {g G h' :Heap} {L :Addr} {m :Str → Option Value} {news news' :List (Addr × Obj)} {s :Shared} {tk :Nat} {x a b c n na nb nc :Nat} {wa wb wc :List Value}
    (F :Fr g L h' m) (N :News g L h' news') (kp :∀ b o,s.heap.get? b = some o → b ∉ news.map (·.1) → g.get? b = some o) (hn :HN G s.heap news) (hs :∀ p ∈ news,p ∈ news')
    (m0 :(x,listOf [Value.ref a,.ref b,.ref c].toArray n) ∈ news') (m1 :(a,listOf wa.toArray na) ∈ news') (m2 :(b,listOf wb.toArray nb) ∈ news') (m3 :(c,listOf wc.toArray nc) ∈ news')
    (l0 :AllLt x news) (l1 :AllLt a news) (l2 :AllLt b news) (l3 :AllLt c news) (i1 :IntsAre wa nmA) (i2 :IntsAre wb nmB) (i3 :IntsAre wc nmC) :RetG s news IsNames (.ref x) { s with heap :=h',toks :=tk } :=by
  refine retG [(x,listOf [Value.ref a,.ref b,.ref c].toArray n),(a,listOf wa.toArray na),(b,listOf wb.toArray nb),(c,listOf wc.toArray nc)] F N kp hn hs (fun p hp => ?_) (fun p hp q hq => ?_) ⟨x,a,b,c,n,na,nb,nc,wa,wb,wc,rfl,rfl,i1,i2,i3⟩
  · simp only [List.mem_cons,List.not_mem_nil,or_false] at hp
    rcases hp with rfl | rfl | rfl | rfl
    · exact m0
    · exact m1
    · exact m2
    · exact m3
  · simp only [List.mem_cons,List.not_mem_nil,or_false] at hp
    rcases hp with rfl | rfl | rfl | rfl
    · exact Nat.ne_of_lt (allLt l0 q hq)
    · exact Nat.ne_of_lt (allLt l1 q hq)
    · exact Nat.ne_of_lt (allLt l2 q hq)
    · exact Nat.ne_of_lt (allLt l3 q hq)
section
variable (w dp un fr gd s mg mb G news)
noncomputable abbrev law_names_ok_Q :Prop :=∀ (gh :GH w mg mb G) (st :Stay G s.heap) (hn :HN G s.heap news) (lv :Lv dp un 1),wpAny (model rw_tg0048_01.row.prog w) (AR dp un fr gd) (call (.ref 349) []) (RetG s news IsNames) (fun _ _ => False) s
end
theorem law_names_ok_L :∀ w dp un fr gd s mg mb G news,law_names_ok_Q w dp un fr gd s mg mb G news :=by
  intro w dp un fr gd s mg mb G news
  delta law_names_ok_Q
  intro gh st hn lv
  refine wpAny_call ?_
  k_dflt (refine' enterF (news :=news) (by assumption) (by assumption) (by assumption) ?k8 ?k6 ?k7 ?k9 ?kB ?_ ?c2 ?c3 ?c4 ?c5; (case k6 => k_is); (case k7 => k_is); (case k8 => exact lv_room (by assumption)); (case k9 => exact BindsTo.of_eq rfl); (case c5 => decide); (case kB => exact locs rfl); (case c2 => exact rfl); (case c3 => exact rfl); (case c4 => exact rfl); k_whole; intro g' L' h' tk' loose' mean' F' N' X' T' sg' kp' bk' l1; (try dsimp only); (try k_fold))
  k_steps
  refine retNames (by k_asm) (by k_asm) (by assumption) (by assumption) (by ktr_rel) (List.Mem.head _) (by k_mem) (by k_mem) (by k_mem) (by simp_all only [and_self,and_true,true_and]) (by simp_all only) (by simp_all only) (by simp_all only) ?_ ?_ ?_
  all_goals (simp only [nmA,nmB,nmC]; repeat (first | exact IntsAre.nil | refine IntsAre.cons _ _ ?_))
theorem law_names_ok :law_names_ok_Q w dp un fr gd s mg mb G news :=law_names_ok_L w dp un fr gd s mg mb G news
end
theorem kw116 :True :=by
  (k_with "mRangeRest" => (refine toStop ?_))
  (k_with "mexec For Tuple Call" => (refine toStop ?_))
  (k_with "msetItem ref int" => (refine toStop ?_))
  trivial
end
section
open PySem PySem.W PySem.Calls PyProof.Rows PyProof
section
section
variable {prog :Program} {w :World} {A :Around} {E :Value → Shared → Prop} {s :Shared}
theorem bounds_in {a b n :Nat} (h1 :a ≤ b) (h2 :b ≤ n) :sliceBounds (some (a :Nat)) (some (b :Nat)) none n = ((a :Int),(b :Int),1) :=by
  have e1 :¬ ((a :Int) < 0) :=by omega
  have e2 :¬ ((b :Int) < 0) :=by omega
  simp only [sliceBounds,Option.getD_none,e1,e2,if_false]
  simp only [show ((1 :Int) > 0) = True from by simp,if_true]
  refine Prod.ext ?_ (Prod.ext ?_ rfl)
  · show max (0 :Int) (min (a :Int) n) = a; omega
  · show max (0 :Int) (min (b :Int) n) = b; omega
noncomputable abbrev setItem_slice_Q (prog :Program) (w :World) (A :Around) (E :Value → Shared → Prop) (s :Shared) (l sl v :Addr) (ws us :List Value) (n m a b :Nat) (vl vu :Value) (Q :Unit → Shared → Prop) :Prop :=∀ (hl :s.heap.get? l = some (listOf ws.toArray n)) (hv :s.heap.get? v = some (listOf us.toArray m)) (hne :l ≠ v) (hs :s.heap.IsSliceOf sl vl vu .none) (pl :IsPart vl (some (a :Nat))) (pu :IsPart vu (some (b :Nat))) (h1 :a ≤ b) (h2 :b ≤ ws.length) (hw :ws.length ≤ 100000) (hu :us.length ≤ 100000) (hQ :Q () { s with heap :=s.heap.update l (Obj.mapSeq fun xs => xs.extract 0 a ++ us.toArray ++ xs.extract b xs.size) }),wpAny (model prog w) A (setItem (.ref l) (.ref sl) (.ref v)) Q E s
theorem setItem_slice_L :∀ prog w A E s l sl v ws us n m a b vl vu Q,setItem_slice_Q prog w A E s l sl v ws us n m a b vl vu Q :=by
  intro prog w A E s l sl v ws us n m a b vl vu Q
  delta setItem_slice_Q
  intro hl hv hne hs pl pu h1 h2 hw hu hQ
  have hL :s.heap.IsList l ws.toArray :=⟨_,hl,rfl,n,rfl⟩
  have hV :s.heap.IsList v us.toArray :=⟨_,hv,rfl,m,rfl⟩
  obtain ⟨os,hos,hcs,hds⟩ :=id hs
  have hTs :s.TypeIs (.ref sl) "slice" :=⟨os,hos,hcs⟩
  unfold setItem
  try with_reducible refine wpAny_holding ?_
  first | refine wpAny_bind (wpAny_pure ?_) | skip
  refine wpAny_bind (wpAny_sequenceKey hL.typeIs (by decide) ?_)
  refine wpAny_bind (wpAny_callSpecial?_slot (name :=Str.ofString "__setitem__") hL.typeIs slot_list_setitem
    (wpAny_call_entry slot_list_setitem hL.typeIs entry_list_setitem ?_ (args_list_setitem _ _ _)))
  show wpAny _ _ (Builtin.List.listSubscript? (.ref sl) >>= _) _ _ s
  refine wpAny_bind ?_
  unfold Builtin.List.listSubscript?
  refine wpAny_bind (wpAny_specialOf hTs slice_no_index ?_)
  simp only [Option.isNone_none,if_true]
  refine wpAny_pure ?_
  show wpAny _ _ (typeOf (.ref sl) >>= _) _ _ s
  refine wpAny_bind (wpAny_typeOf hTs ?_)
  rw [if_neg (by decide)]
  rw [listSliceParts_eq]
  refine wpAny_bind (wpAny_bind (wpAny_field hos hds (x :=.none) rfl (wpAny_bind (wpAny_listPart .none ?_))))
  rw [if_neg (by exact Bool.false_ne_true)]
  refine wpAny_bind (wpAny_field hos hds (x :=vl) rfl (wpAny_bind (wpAny_listPart pl ?_)))
  refine wpAny_bind (wpAny_field hos hds (x :=vu) rfl (wpAny_bind (wpAny_listPart pu (wpAny_pure ?_))))
  rw [show Builtin.List.listSameRef (.ref l) (.ref v) = false from by simp [Builtin.List.listSameRef,hne]]
  dsimp only [Bool.false_eq_true,if_false]
  refine wpAny_bind (m :=Builtin.List.listAllItems _ _) ?_
  · unfold Builtin.List.listAllItems
    refine wpAny_bind (wpAny_typeOf hV.typeIs ?_)
    rw [if_pos (by decide)]
    unfold Builtin.List.listItems
    refine wpAny_bind (wpAny_seqItems hv rfl (wpAny_pure ?_))
    refine wpAny_bind (wpAny_bind (wpAny_seqItems hl rfl (wpAny_pure ?_)))
    refine wpAny_bind (wpAny_of_eq (sliceIndices_raw (some a) (some b) none ws.toArray.size (by simp)) ?_)
    rw [bounds_in h1 (by simpa using h2)]
    dsimp only
    have hm :(max (a :Int) (b :Int)).toNat = b :=by omega
    rw [if_pos (by exact rfl),hm,Int.toNat_natCast]
    have hz :¬ (Builtin.List.listTooLong (ws.toArray.size + us.toArray.size) = true) :=by
      simp only [Builtin.List.listTooLong,List.size_toArray,decide_eq_true_eq,sizeLine_eq]
      omega
    refine wpAny_bind (wpAny_rule ?_)
    rw [if_neg hz]
    refine wpAny_bind (wpAny_updateSeq hl rfl ?_ ?_ ?_)
    · refine wpAny_bind (wpAny_letGo ?_)
      exact wpAny_pure ⟨.none,rfl,wpAny_pure hQ⟩
    · simp only [List.size_toArray,sizeLine_eq]; omega
    · simp only [Array.size_append,Array.size_extract,List.size_toArray,sizeLine_eq]; omega
theorem setItem_slice {l sl v :Addr} {ws us :List Value} {n m a b :Nat} {vl vu :Value} {Q :Unit → Shared → Prop} (hl :s.heap.get? l = some (listOf ws.toArray n)) (hv :s.heap.get? v = some (listOf us.toArray m)) (hne :l ≠ v)
    (hs :s.heap.IsSliceOf sl vl vu .none) (pl :IsPart vl (some (a :Nat))) (pu :IsPart vu (some (b :Nat))) (h1 :a ≤ b) (h2 :b ≤ ws.length) (hw :ws.length ≤ 100000) (hu :us.length ≤ 100000)
    (hQ :Q () { s with heap :=s.heap.update l (Obj.mapSeq fun xs => xs.extract 0 a ++ us.toArray ++ xs.extract b xs.size) }) :
    wpAny (model prog w) A (setItem (.ref l) (.ref sl) (.ref v)) Q E s :=setItem_slice_L prog w A E s l sl v ws us n m a b vl vu Q hl hv hne hs pl pu h1 h2 hw hu hQ
end
end
end
section
open PySem PySem.W PySem.Calls PyProof.Rows PyProof
section
section
variable {prog :Program} {w :World} {A :Around} {E :Value → Shared → Prop} {s :Shared}
noncomputable abbrev ilD (ns :List Int) :PyData :=.list (ns.map PyData.int)
theorem ilD_eqv (ns ms :List Int) :PyData.eqv (ilD ns) (ilD ms) = decide (ns = ms) :=by
  show PyData.eqvAll _ _ = _
  exact ked_eqvAll ns ms
theorem ilD_lay (ns :List Int) :(ilD ns).canLay0 = true :=by
  show PyData.canLayAll0 _ = true
  exact ke_canLayAll0 ns
theorem ilD_depth (ns :List Int) :(ilD ns).depth ≤ 1 :=by
  simp [PyData.depth,ke_depthAll]
theorem ilD_lays :∀ nss :List (List Int),PyData.canLayAll0 (nss.map ilD) = true
  | [] => rfl
  | ns :: r => by
    simp only [List.map_cons,PyData.canLayAll0,Bool.and_eq_true]
    exact ⟨ilD_lay ns,ilD_lays r⟩
theorem ilD_reads {h :Heap} {y :Addr} {ys :List Value} {m :Nat} {ns :List Int} (hy :h.get? y = some (listOf ys.toArray m)) (hI :IntsAre ys ns) :Reads h (.ref y) (ilD ns) [y] :=
  reads_newData ⟨_,hy,rfl,m,rfl⟩ (ke_carried hI)
inductive Lists (news :List (Addr × Obj)) :List Value → List (List Int) → Prop
  | nil :Lists news [] []
  | cons {a n :Nat} {ws vs :List Value} {ns :List Int} {nss :List (List Int)} :(a,listOf ws.toArray n) ∈ news → IntsAre ws ns → Lists news vs nss → Lists news (.ref a :: vs) (ns :: nss)
theorem Lists.reads {h₀ h :Heap} {L :Addr} {news :List (Addr × Obj)} (N :News h₀ L h news) :∀ {vs :List Value} {nss :List (List Int)},Lists news vs nss → ∃ as,ReadsAll h vs (nss.map ilD) as
  | _,_,.nil => ⟨_,.nil⟩
  | _,_,.cons hm hI r => by
    obtain ⟨as,z⟩ :_ :=Lists.reads N r
    exact ⟨_,.cons (ilD_reads (N.get hm) hI) z⟩
theorem Lists.length {news :List (Addr × Obj)} :∀ {vs :List Value} {nss :List (List Int)},Lists news vs nss → vs.length = nss.length
  | _,_,.nil => rfl
  | _,_,.cons _ _ r => congrArg (· + 1) r.length
variable {h₀ :Heap} {L :Addr} {m :Str → Option Value} {news :List (Addr × Obj)} {x y n k :Nat} {vs ys :List Value} {nss :List (List Int)} {ns :List Int} {Q :Value → Shared → Prop}
theorem in_lists (N :News h₀ L s.heap news) (hx :(x,listOf vs.toArray n) ∈ news) (hL :Lists news vs nss) (hy :(y,listOf ys.toArray k) ∈ news) (hI :IntsAre ys ns) (hu :A.units + 64 < cLine) (h :Q (.bool (decide (ns ∈ nss))) s) :
    wpAny (model prog w) A (compareOp .In (.ref y) (.ref x)) Q E s :=by
  obtain ⟨as,ra⟩ :_ :=hL.reads N
  have e :((nss.map ilD).any fun y => PyData.eqv y (ilD ns)) = decide (ns ∈ nss) :=by
    rw [List.any_map]
    apply Bool.eq_iff_iff.mpr
    rw [List.any_eq_true]
    constructor
    · rintro (⟨z,hz,q⟩)
      have q' :PyData.eqv (ilD z) (ilD ns) = true :=q
      rw [ilD_eqv,decide_eq_true_eq] at q'
      subst q'
      exact decide_eq_true hz
    · intros hz
      exact ⟨ns,of_decide_eq_true hz,by show PyData.eqv (ilD ns) (ilD ns) = true; rw [ilD_eqv]; simp⟩
  have d :=ilD_depth ns
  refine SeqAt.in_list_reads (.list (N.get hx) rfl rfl (by simpa using ra)) (ilD_reads (N.get hy) hI) (ilD_lays nss) (ilD_lay ns) ?_ (by rw [e]; exact h)
  have :=Nat.min_le_right (PyData.depthAll (nss.map ilD)) (ilD ns).depth
  omega
theorem index_lists {j :Nat} (N :News h₀ L s.heap news) (hx :(x,listOf vs.toArray n) ∈ news) (hL :Lists news vs nss) (hy :(y,listOf ys.toArray k) ∈ news) (hI :IntsAre ys ns) (hu :A.units + 64 < cLine)
    (hj :nss[j]? = some ns) (hno :∀ i,i < j → nss[i]? ≠ some ns) (hs :j < 1000) (h :Q (.int (j :Nat) s.toks) { s with toks :=s.toks + 1 }) :
    wpAny (model prog w) A (call (.builtin "list.index") [.ref x,.ref y]) Q E s :=by
  obtain ⟨as,ra⟩ :_ :=hL.reads N
  have hx' :=N.get hx
  have len :=hL.length
  have jl :j < nss.length :=(List.getElem?_eq_some_iff.mp hj).1
  have d :=ilD_depth ns
  have rd :∀ i (h1 :i < vs.length),PyData.eqv (SeqAt.readOf s.heap vs[i]) (ilD ns) = decide (nss[i]'(by omega) = ns) :=by
    intros i h1
    have :=SeqAt.readsAll_map _ _ _ (ilD_lays nss) ra
    have e :SeqAt.readOf s.heap vs[i] = ilD (nss[i]'(by omega)) :=by
      have z :(vs.map (SeqAt.readOf s.heap))[i]? = (nss.map ilD)[i]? :=by rw [this]
      rw [List.getElem?_map,List.getElem?_map,List.getElem?_eq_getElem h1,List.getElem?_eq_getElem (by omega)] at z
      simpa using z
    rw [e,ilD_eqv]
  refine call_meets PySem.F.slot_list_index ⟨_,hx',rfl⟩ PySem.F.entry_list_index (PySem.F.args_list_index_2 _ _)
    (SeqAt.list_indexAt x vs.toArray n none _ (.ref y) (fun z => PyData.eqv (SeqAt.readOf s.heap z) (ilD ns)) j (by simpa [len] using jl) (by omega) ?_ ?_) ⟨hx',SeqAt.items_eqAt (by simpa using ra) (ilD_reads (N.get hy) hI) (ilD_lays nss) (ilD_lay ns) ?_,h⟩
  · show PyData.eqv (SeqAt.readOf s.heap vs[j]) _ = true
    rw [rd j (by omega)]
    exact decide_eq_true (by rw [List.getElem?_eq_getElem jl] at hj; exact Option.some.inj hj)
  · intros i hi hlt
    show PyData.eqv (SeqAt.readOf s.heap vs[i]) _ = false
    have hi' :i < vs.length :=by simpa using hi
    rw [rd i hi']
    refine decide_eq_false fun e => hno i hlt ?_
    rw [List.getElem?_eq_getElem (by omega),e]
  · have :=Nat.min_le_right (PyData.depthAll (nss.map ilD)) (ilD ns).depth
    omega
theorem setSlice_first {v a b n :Nat} {ws us :List Value} {vl vu :Value} {Q :Unit → Shared → Prop} (F :Fr h₀ L s.heap m) (N :News h₀ L s.heap news) (hl :(x,listOf ws.toArray n) ∈ news) (hv :(v,listOf us.toArray k) ∈ news) (hne :x ≠ v)
    (pl :IsPart vl (some (a :Nat))) (pu :IsPart vu (some (b :Nat))) (h1 :a ≤ b) (h2 :b ≤ ws.length) (hw :ws.length ≤ 100000) (hu :us.length = b - a)
    (h :∀ h',Fr h₀ L h' m → News h₀ L h' ((x,listOf (ws.take a ++ us ++ ws.drop b).toArray n) :: dropN x news) → Q () { s with heap :=h' }) :
    wpAny (model prog w) A (setItem (.ref x) (.ref s.heap.objs.size) (.ref v)) Q E { s with heap :=s.heap.push { cls :=.type "slice",data :=.fields #[vl,vu,.none] } } :=by
  have F1 :=F.push { cls :=.type "slice",data :=.fields #[vl,vu,.none] }
  have N1 :=N.grown fun _ _ e => Heap.get?_push_of_some { cls :=.type "slice",data :=.fields #[vl,vu,.none] } e
  refine setItem_slice (N1.get hl) (N1.get hv) hne (Heap.IsSliceOf.new ..) pl pu h1 h2 hw (by omega) ?_
  have z :=N1 _ hl
  refine h _ (F1.change (Heap.SameBut.update ..) z.2.1 z.2.2) ?_
  refine News.setHead (News.first N1 hl) dropN_ne (Heap.SameBut.update ..) ?_
  rw [Heap.get?_update_self _ (N1.get hl) (by rfl)]
  have e :(ws.toArray.extract 0 a ++ us.toArray ++ ws.toArray.extract b ws.toArray.size) = (ws.take a ++ us ++ ws.drop b).toArray :=by
    apply Array.toList_inj.mp
    simp [List.extract_eq_drop_take,List.take_of_length_le]
  show some (Obj.mapSeq _ _) = _
  have e2 :(ws.take a ++ us ++ ws.drop b).toArray.size = ws.toArray.size :=by simp; omega
  simp only [Obj.mapSeq,e,e2,beq_self_eq_true,if_true]
theorem lists3 {a b c na nb nc :Nat} {wa wb wc :List Value} (ha :(a,listOf wa.toArray na) ∈ news) (hb :(b,listOf wb.toArray nb) ∈ news) (hc :(c,listOf wc.toArray nc) ∈ news) (iA :IntsAre wa nmA) (iB :IntsAre wb nmB) (iC :IntsAre wc nmC) :
    Lists news [.ref a,.ref b,.ref c] [nmA,nmB,nmC] :=.cons ha iA (.cons hb iB (.cons hc iC .nil))
theorem in3 {a b c na nb nc :Nat} {wa wb wc :List Value} (N :News h₀ L s.heap news) (hx :(x,listOf [Value.ref a,.ref b,.ref c].toArray n) ∈ news) (ha :(a,listOf wa.toArray na) ∈ news) (hb :(b,listOf wb.toArray nb) ∈ news) (hc :(c,listOf wc.toArray nc) ∈ news) (iA :IntsAre wa nmA) (iB :IntsAre wb nmB) (iC :IntsAre wc nmC)
    (hy :(y,listOf ys.toArray k) ∈ news) (hI :IntsAre ys ns) (hu :A.units + 64 < cLine) {bl :Bool} (hbl :decide (ns ∈ [nmA,nmB,nmC]) = bl) (h :Q (.bool bl) s) :
    wpAny (model prog w) A (compareOp .In (.ref y) (.ref x)) Q E s :=in_lists N hx (lists3 ha hb hc iA iB iC) hy hI hu (hbl ▸ h)
theorem idxOf_first {nss :List (List Int)} {ns :List Int} (h :ns ∈ nss) :nss[nss.idxOf ns]? = some ns ∧ ∀ i,i < nss.idxOf ns → nss[i]? ≠ some ns :=by
  have hl :=List.idxOf_lt_length_iff.mpr h
  refine ⟨by rw [List.getElem?_eq_getElem hl,List.getElem_idxOf hl],fun i hi e => ?_⟩
  have hi' :i < nss.length :=by omega
  rw [List.getElem?_eq_getElem hi'] at e
  have e' :=Option.some.inj e
  have :=List.not_of_lt_findIdx (p :=(· == ns)) (xs :=nss) (i :=i) (by simpa [List.idxOf] using hi)
  simp [e'] at this
theorem index3 {a b c na nb nc :Nat} {wa wb wc :List Value} (N :News h₀ L s.heap news) (hx :(x,listOf [Value.ref a,.ref b,.ref c].toArray n) ∈ news) (ha :(a,listOf wa.toArray na) ∈ news) (hb :(b,listOf wb.toArray nb) ∈ news) (hc :(c,listOf wc.toArray nc) ∈ news) (iA :IntsAre wa nmA) (iB :IntsAre wb nmB) (iC :IntsAre wc nmC)
    (hy :(y,listOf ys.toArray k) ∈ news) (hI :IntsAre ys ns) (hu :A.units + 64 < cLine) (hin :ns ∈ [nmA,nmB,nmC]) {j :Int} (hj :(([nmA,nmB,nmC] :List (List Int)).idxOf ns :Nat) = j) (h :Q (.int j s.toks) { s with toks :=s.toks + 1 }) :
    wpAny (model prog w) A (call (.builtin "list.index") [.ref x,.ref y]) Q E s :=by
  have hl :([nmA,nmB,nmC] :List (List Int)).idxOf ns < 3 :=List.idxOf_lt_length_iff.mpr hin
  exact index_lists N hx (lists3 ha hb hc iA iB iC) hy hI hu (idxOf_first hin).1 (idxOf_first hin).2 (by omega) (hj ▸ h)
theorem item3 {value slice :PySem.Expr} {a b c na nb nc :Nat} {wa wb wc :List Value} {j :Int} {u :Tok} (N :News h₀ L s.heap news) (hx :(x,listOf [Value.ref a,.ref b,.ref c].toArray n) ∈ news) (ha :(a,listOf wa.toArray na) ∈ news) (hb :(b,listOf wb.toArray nb) ∈ news) (hc :(c,listOf wc.toArray nc) ∈ news) (iA :IntsAre wa nmA) (iB :IntsAre wb nmB) (iC :IntsAre wc nmC)
    (h0 :0 ≤ j) (h1 :j < 3) (h :∀ y ys k,(y,listOf ys.toArray k) ∈ news → IntsAre ys (([nmA,nmB,nmC] :List (List Int)).getD j.toNat []) → Q (.ref y) s)
    (hs :subscripted slice false (.ref x) (.int j u) = operate [.ref x,.int j u] (getItem (.ref x) (.int j u)) :=by with_unfolding_all rfl) :
    wpAny (model prog w) A (subscriptTail value slice (.ref x) (.int j u)) Q E s :=by
  have o :j = 0 ∨ j = 1 ∨ j = 2 :=by omega
  rcases o with rfl | rfl | rfl
  · exact item_listR (items :=[Value.ref a,.ref b,.ref c].toArray) ⟨_,(N _ hx).1,rfl,_,rfl⟩ (by decide) (by decide) (by simp) (h _ _ _ ha iA) hs
  · exact item_listR (items :=[Value.ref a,.ref b,.ref c].toArray) ⟨_,(N _ hx).1,rfl,_,rfl⟩ (by decide) (by decide) (by simp) (h _ _ _ hb iB) hs
  · exact item_listR (items :=[Value.ref a,.ref b,.ref c].toArray) ⟨_,(N _ hx).1,rfl,_,rfl⟩ (by decide) (by decide) (by simp) (h _ _ _ hc iC) hs
theorem slice_in {value slice :PySem.Expr} {l n :Nat} {ws :List Value} {M r :List Int} {lo hi :Int} {t1 t2 :Tok} (F :Fr h₀ L s.heap m) (N :News h₀ L s.heap news) (hl :(l,listOf ws.toArray n) ∈ news) (hI :IntsAre ws M) (h0 :0 ≤ lo) (h1 :lo ≤ hi) (h2 :hi ≤ M.length) (hM :M.length ≤ 100000)
    (hr :(M.drop lo.toNat).take (hi - lo).toNat = r)
    (h :∀ D ys h',Fr h₀ L h' m → News h₀ L h' ((D,listOf ys.toArray 0) :: news) → IntsAre ys r → Q (.ref D) { s with heap :=h' })
    (hs :subscripted slice false (.ref l) (.ref s.heap.objs.size) = operate [.ref s.heap.objs.size,.ref l] (getItem (.ref l) (.ref s.heap.objs.size)) :=by with_unfolding_all rfl)
    (ht :∀ r,letTemporaryGo value (.ref l) r = pure () :=by intros _; with_unfolding_all rfl) :
    wpAny (model prog w) A (subscriptTail value slice (.ref l) (.ref s.heap.objs.size)) Q E { s with heap :=s.heap.push { cls :=.type "slice",data :=.fields #[.int lo t1,.int hi t2,.none] } } :=by
  have hw :=hI.length
  refine slice_list F N (News.isList N hl) (.int _ _) (.int _ _) (fun h' F' N' => ?_) hs ht (by simp only [List.size_toArray,sizeLine_eq]; omega)
  have e :=slice_ints hI h0 h1 h2
  rw [hr] at e
  have z :slicePick ws.toArray (some lo) (some hi) none = ((slicePick ws.toArray (some lo) (some hi) none).toList).toArray :=by simp
  rw [z] at N'
  exact h _ _ h' F' N' e
theorem setSlice_in {v a b n :Nat} {ws us :List Value} {lo hi :Int} {t1 t2 :Tok} {Q :Unit → Shared → Prop} {M zs :List Int} (F :Fr h₀ L s.heap m) (N :News h₀ L s.heap news) (hl :(x,listOf ws.toArray n) ∈ news) (hI :IntsAre ws M) (hv :(v,listOf us.toArray k) ∈ news) (hJ :IntsAre us zs) (ea :lo = (a :Nat)) (eb :hi = (b :Nat)) (h1 :a ≤ b) (h2 :b ≤ M.length) (hw :M.length ≤ 100000) (hu :zs.length = b - a) (hn :zs.length ≠ M.length)
    (h :∀ h' w1,Fr h₀ L h' m → News h₀ L h' ((x,listOf w1.toArray n) :: dropN x news) → IntsAre w1 (M.take a ++ zs ++ M.drop b) → Q () { s with heap :=h' }) :
    wpAny (model prog w) A (setItem (.ref x) (.ref s.heap.objs.size) (.ref v)) Q E { s with heap :=s.heap.push { cls :=.type "slice",data :=.fields #[.int lo t1,.int hi t2,.none] } } :=by
  have e1 :=hI.length
  have e2 :=hJ.length
  subst ea eb
  exact setSlice_first F N hl hv (News.ne N hl hv (list_ne (by omega))) (.int _ _) (.int _ _) h1 (by omega) (by omega) (by omega) fun h' F' N' => h h' _ F' N' (((hI.take a).append hJ).append (hI.drop b))
theorem Lists.get {news :List (Addr × Obj)} :∀ {vs :List Value} {nss :List (List Int)},Lists news vs nss → ∀ j,j < nss.length → ∃ y ys k,vs[j]? = some (Value.ref y) ∧ (y,listOf ys.toArray k) ∈ news ∧ IntsAre ys (nss.getD j [])
  | _,_,.nil,_,h => nomatch h
  | _,_,.cons hm hI _,0,_ => ⟨_,_,_,rfl,hm,hI⟩
  | _,_,.cons _ _ r,j + 1,h => by
    obtain ⟨y,ys,k,h1,h2,h3⟩ :_ :=Lists.get r j (by simpa using h)
    exact ⟨y,ys,k,by simpa using h1,h2,by simpa using h3⟩
theorem item_lists {value slice :PySem.Expr} {j :Int} {u :Tok} (N :News h₀ L s.heap news) (hx :(x,listOf vs.toArray n) ∈ news) (hL :Lists news vs nss) (h0 :0 ≤ j) (h1 :j < nss.length) (h2 :nss.length < 1000)
    (h :∀ y ys k,Value.ref y ∈ vs → (y,listOf ys.toArray k) ∈ news → IntsAre ys (nss.getD j.toNat []) → Q (.ref y) s)
    (hs :subscripted slice false (.ref x) (.int j u) = operate [.ref x,.int j u] (getItem (.ref x) (.int j u)) :=by with_unfolding_all rfl) :
    wpAny (model prog w) A (subscriptTail value slice (.ref x) (.int j u)) Q E s :=by
  obtain ⟨y,ys,k,e,m,i⟩ :_ :=hL.get j.toNat (by omega)
  exact item_listR (items :=vs.toArray) ⟨_,(N _ hx).1,rfl,_,rfl⟩ h0 (by omega) (by simpa using e) (h _ _ _ (List.mem_of_getElem? e) m i) hs
end
end
end
end EMA
variable {w :World} {dp un :Nat} {fr :Option (List Env)} {gd :Option (List Code)} {s :Shared} {mg mb :Str → Option Value} {G :Heap} {news :List (Addr × Obj)} {a :DA} {vs :List Value} {D :List Int}
section
section
theorem kw117 :True :=by
  (k_with "msetItem ref int" => (k_extra "r8"))
  (k_with "mRangeRest" => (refine Wait.h ?_))
  (k_with "mexec For Tuple Call" => (k_extra "r6"))
  trivial
noncomputable def nms :List (List Int) :=[nmA,nmB,nmC]
noncomputable def nmOne (p :Int × Int) :Int :=Builtin.bitOr p.1 (Builtin.bitAnd p.2 128)
noncomputable abbrev lettersOf (M :List Int) (i :Nat) :List Int :=(M.drop (32 * i + 1)).take 11
noncomputable def exName (ord M :List Int) (i :Nat) :List Int :=
  if bareL (lettersOf M i) ∈ nms then M.take (32 * i + 1) ++ ((nms.getD (ord.getD (nms.idxOf (bareL (lettersOf M i))) 0).toNat []).zip (lettersOf M i)).map nmOne ++ M.drop (32 * i + 12) else M
noncomputable def exUser (tn :Bool) (M :List Int) (i :Nat) :List Int :=if M.getD (32 * i) 0 < 2 ∧ tn = true then M.set (32 * i) (1 - M.getD (32 * i) 0) else M
noncomputable def exStep (ord :List Int) (tn :Bool) (M :List Int) (i :Nat) :List Int :=exUser tn (exName ord M i) i
noncomputable def exL (ord :List Int) (tn :Bool) (D :List Int) (k :Nat) :List Int :=(List.range k).foldl (exStep ord tn) D
theorem exL_succ {ord :List Int} {tn :Bool} {D :List Int} {k :Nat} :exL ord tn D (k + 1) = exStep ord tn (exL ord tn D k) k :=by
  unfold exL; rw [List.range_succ,List.foldl_append]; rfl
theorem nms_len {j :Nat} (h :j < 3) :(nms.getD j []).length = 11 :=by
  match j,h with
  | 0,_ => rfl
  | 1,_ => rfl
  | 2,_ => rfl
theorem ord_at {ord :List Int} (ql :ord.length = 3) (qo :∀ x ∈ ord,0 ≤ x ∧ x < 3) {j :Nat} (h :j < 3) :0 ≤ ord.getD j 0 ∧ ord.getD j 0 < 3 :=by
  rw [List.getD_eq_getElem?_getD,List.getElem?_eq_getElem (by omega),Option.getD_some]
  exact qo _ (List.getElem_mem _)
theorem nms_idx {ls :List Int} (h :ls ∈ nms) :nms.idxOf ls < 3 :=List.idxOf_lt_length_iff.mpr h
theorem letters_len {M :List Int} {i :Nat} (hM :M.length = 1408) (hi :i < 8) :(lettersOf M i).length = 11 :=by
  simp only [lettersOf,List.length_take,List.length_drop]; omega
theorem exName_len {ord M :List Int} {i :Nat} (ql :ord.length = 3) (qo :∀ x ∈ ord,0 ≤ x ∧ x < 3) (hM :M.length = 1408) (hi :i < 8) :(exName ord M i).length = 1408 :=by
  unfold exName
  split
  · rename_i h
    have o :=ord_at ql qo (nms_idx h)
    have n :=nms_len (j :=(ord.getD (nms.idxOf (bareL (lettersOf M i))) 0).toNat) (by omega)
    have l :=letters_len hM hi
    simp only [List.length_append,List.length_take,List.length_map,List.length_zip,List.length_drop,n,l]
    omega
  · exact hM
theorem exUser_len {M :List Int} {tn :Bool} {i :Nat} :(exUser tn M i).length = M.length :=by
  unfold exUser
  split
  · simp
  · rfl
theorem exL_len {ord D :List Int} {tn :Bool} (ql :ord.length = 3) (qo :∀ x ∈ ord,0 ≤ x ∧ x < 3) (hD :D.length = 1408) :∀ k,k ≤ 8 → (exL ord tn D k).length = 1408
  | 0,_ => hD
  | k + 1,h => by
    rw [exL_succ]
    unfold exStep
    rw [exUser_len]
    exact exName_len ql qo (exL_len ql qo hD k (by omega)) (by omega)
noncomputable def But4 (m₀ :Str → Option Value) (x1 x2 x3 x4 :Str) (m :Str → Option Value) :Prop :=∃ v1 v2 v3 v4,m = fun z => if z = x4 then v4 else if z = x3 then v3 else if z = x2 then v2 else if z = x1 then v1 else m₀ z
theorem but4_of {m₀ m :Str → Option Value} {x1 x2 x3 x4 :Str} (h :∀ z,z ≠ x1 → z ≠ x2 → z ≠ x3 → z ≠ x4 → m z = m₀ z) :But4 m₀ x1 x2 x3 x4 m :=⟨m x1,m x2,m x3,m x4,funext fun z => by
  by_cases h4 :z = x4
  · subst h4; rw [if_pos rfl]
  · rw [if_neg h4]
    by_cases h3 :z = x3
    · subst h3; rw [if_pos rfl]
    · rw [if_neg h3]
      by_cases h2 :z = x2
      · subst h2; rw [if_pos rfl]
      · rw [if_neg h2]
        by_cases h1 :z = x1
        · subst h1; rw [if_pos rfl]
        · rw [if_neg h1]; exact h z h1 h2 h3 h4⟩
local macro_rules | `(tactic| kts_go) => `(tactic| k_extra "kts_go15")
theorem kw118 :True :=by
  (k_with "mexec Assign cons ListComp" => ((with_reducible refine wpAny_Assign_Subscript ?_ ?_; rotate_left; with_unfolding_all rfl)))
  (k_with "meval ListComp" => (k_extra "r2"))
  (k_with "kts_go15" => ((intro q9 h9 tk9 F9 N9 iA9 iB9 iC9 lt9; (have s9 :Apart _ _ :=lt9); (try dsimp only); (try k_fold))))
  (k_with "mcall ref" => (refine Wait.h ?_))
  (k_with "mcompareOp In ref ref" => ((refine in3 (by k_asm) (List.Mem.head _) (List.Mem.tail _ (List.Mem.head _)) (List.Mem.tail _ (List.Mem.tail _ (List.Mem.head _))) (List.Mem.tail _ (List.Mem.tail _ (List.Mem.tail _ (List.Mem.head _)))) (by assumption) (by assumption) (by assumption) (by k_mem) (by assumption) (by have q9 :=(by assumption :Lv _ _ _).2; show _ + 64 < 9900; simp only [Around.deeper,AR]; omega) (by assumption) ?_)))
  (k_with "mcall builtin:list.index" => (refine Wait.h ?_))
  (k_with "mcall type:zip" => (refine Wait.h ?_))
  (k_with "msubscriptTail Name Slice ref ref" => (refine Wait.h ?_))
  (k_with "msubscriptTail Call" => (refine Wait.h ?_))
  (k_with "msubscriptTail Name Call ref int" => (refine Wait.h ?_))
  (k_with "msubscriptTail Name Call" => (refine Wait.h ?_))
  trivial
theorem fr_out {x y1 y2 :Str} {a b :Option Value} {m :Str → Option Value} (n1 :x ≠ y1) (n2 :x ≠ y2) :(fun y => if y = y1 then a else if y = y2 then b else m y) = (fun z => if z = x then m x else if z = y1 then a else if z = y2 then b else m z) :=by
  funext z
  by_cases h :z = x
  · rw [if_pos h,h,if_neg n1,if_neg n2]
  · rw [if_neg h]
noncomputable def ExMid (s :Shared) (g :Heap) (L :Addr) (m₀ :Str → Option Value) (rest :List (Addr × Obj)) (f nf i :Nat) (M1 :List Int) (s' :Shared) :Prop :=
  ∃ h tk,∃ w1 :List Value,∃ vN vL ta,s' = { s with heap :=h,toks :=tk } ∧ IntsAre w1 M1 ∧ Fr g L h (fun z => if z = Str.ofString "named" then vN else if z = Str.ofString "letters" then vL else if z = Str.ofString "at" then some (.int (32 * (i :Int)) ta) else m₀ z) ∧
    News g L h ((f,listOf w1.toArray nf) :: rest)
theorem ex_split {prog :Program} {w :World} {A :Around} {E :Value → Shared → Prop} {s :Shared} {env :Env} {s1 s2 s3 :Stmt} {rest :List Stmt} {Q :Flow → Shared → Prop}
    {g :Heap} {L :Addr} {m₀ :Str → Option Value} {r :List (Addr × Obj)} {f nf i :Nat} {M1 :List Int} (F :Fr g L s.heap m₀)
    (head :wpAny (model prog w) A (execs [s1,s2,s3] env) (fun f' s' => match f' with | .next => ExMid s g L m₀ r f nf i M1 s' | f' => Q f' s') E s)
    (tail :∀ s',ExMid s g L m₀ r f nf i M1 s' → wpAny (model prog w) A (execs rest env) Q E s') :wpAny (model prog w) A (execs (s1 :: s2 :: s3 :: rest) env) Q E s :=
  wp_app (l :=[s1,s2,s3]) _ head tail
theorem ex_end {s :Shared} {g :Heap} {L :Addr} {m₀ m :Str → Option Value} {r led :List (Addr × Obj)} {f nf i I :Nat} {it :Obj} {M1 :List Int} {h :Heap} {tk ta :Nat} {w1 :List Value} {vN vL :Option Value}
    (F :Fr g L h m) (N :News g L h led) (hW :IntsAre w1 M1) (e :m = fun z => if z = Str.ofString "named" then vN else if z = Str.ofString "letters" then vL else if z = Str.ofString "at" then some (.int (32 * (i :Int)) ta) else m₀ z)
    (m1 :(f,listOf w1.toArray nf) ∈ led) (m2 :(I,it) ∈ led) (m3 :∀ q ∈ r,q ∈ led) :ExMid s g L m₀ ((I,it) :: r) f nf i M1 { s with heap :=h,toks :=tk } :=
  ⟨h,tk,w1,vN,vL,ta,rfl,hW,e ▸ F,News.sub N fun q hq => (List.mem_cons.mp hq).elim (fun e => e ▸ m1) fun hq => (List.mem_cons.mp hq).elim (fun e => e ▸ m2) (m3 q)⟩
section
variable (w dp un fr gd s mg mb G news a vs D)
noncomputable abbrev exchanged_ok_Q (lo no :Nat) (os :List Value) (ord :List Int) (tn :Bool) :Prop :=∀ (gh :GH w mg mb G) (st :Stay G s.heap) (hn :HN G s.heap news) (lv :Lv dp un 3) (dm :DM w.params a vs D news) (q1 :(lo,listOf os.toArray no) ∈ news) (qI :IntsAre os ord) (ql :ord.length = 3) (qo :∀ x ∈ ord,0 ≤ x ∧ x < 3),wpAny (model rw_tg0048_01.row.prog w) (AR dp un fr gd) (call (.ref 368) [.ref a.d,.ref lo,.bool tn]) (RetG s news (IsIL (exL ord tn D 8))) (fun _ _ => False) s
end
theorem exchanged_ok_L :∀ w dp un fr gd s mg mb G news a vs D lo no os ord tn,exchanged_ok_Q w dp un fr gd s mg mb G news a vs D lo no os ord tn :=by
  refine ei8 (h :=?_)
  generalize (ep8 _).1 = w
  generalize (ep8 _).2.1 = dp
  generalize (ep8 _).2.2.1 = un
  generalize (ep8 _).2.2.2.1 = fr
  generalize (ep8 _).2.2.2.2.1 = gd
  generalize (ep8 _).2.2.2.2.2.1 = s
  generalize (ep8 _).2.2.2.2.2.2.1 = mg
  generalize (ep8 _).2.2.2.2.2.2.2 = mb
  refine ei8 (h :=?_)
  generalize (ep8 _).1 = G
  generalize (ep8 _).2.1 = news
  generalize (ep8 _).2.2.1 = a
  generalize (ep8 _).2.2.2.1 = vs
  generalize (ep8 _).2.2.2.2.1 = D
  generalize (ep8 _).2.2.2.2.2.1 = lo
  generalize (ep8 _).2.2.2.2.2.2.1 = no
  generalize (ep8 _).2.2.2.2.2.2.2 = os
  refine ei2 (h :=?_)
  generalize (ep2 _).1 = ord
  generalize (ep2 _).2 = tn
  delta exchanged_ok_Q
  intro gh st hn lv dm q1 qI ql qo
  have dm0 :=dm
  obtain ⟨m1,m2,m3,m4,hI,hl⟩ :=dm
  cell_enter
  k_steps
  rename Fr _ _ _ _ => F1
  rename News _ _ _ _ => N1
  have f0 :∀ p ∈ news,p.1 ≠ _ :=fun p hp => Nat.ne_of_lt ((by assumption :∀ p ∈ news,p.1 < _) p hp)
  rename_i f _ _ lf _ _ _ _ _ _ _ _ I ltI
  refine ⟨range_inv (But4 _ (Str.ofString "number") (Str.ofString "at") (Str.ofString "letters") (Str.ofString "named")) (fun i nw => ∃ (ws :List Value) (nf :Nat),nw = (_,listOf ws.toArray nf) :: news ∧ IntsAre ws (exL ord tn D i)) ?_ ?_ (but4_of fun z _ _ _ _ => rfl) ⟨vs,_,rfl,hI⟩⟩
  · rintro i m₁ nw t h tk it hi ⟨v1,v2,v3,v4,rfl⟩ ⟨ws,nf,rfl,hW⟩ F' N'
    clear F1 N1
    simp only [Int.zero_add] at F'
    have lM :=exL_len (tn :=tn) ql qo hl i (by omega)
    have eS :=exL_succ (ord :=ord) (tn :=tn) (D :=D) (k :=i)
    have l1 :=exName_len (ord :=ord) (i :=i) ql qo lM (by omega)
    unfold exStep at eS
    generalize exL ord tn D i = M at hW lM eS l1
    refine ex_split (f :=f) (nf :=nf) (i :=i) (r :=(I,it) :: news) (M1 :=exName ord M i) F' ?_ ?_
    · clear eS l1
      have lW :=hW.length
      have l11 :=letters_len (i :=i) lM (by omega)
      have s12 :(M.drop (32 * (i :Int) + 1).toNat).take (32 * (i :Int) + 12 - (32 * (i :Int) + 1)).toNat = lettersOf M i :=by
        rw [show (32 * (i :Int) + 1).toNat = 32 * i + 1 from by omega,show (32 * (i :Int) + 12 - (32 * (i :Int) + 1)).toNat = 11 from by omega]
      k_steps
      refine ⟨?_⟩
      k_dflt (refine slice_in (by k_asm) (by k_asm) (by k_mem) hW (by omega) (by omega) (by omega) (by omega) s12 ?_)
      intro D1 ws1 h1 F1 N1 hS
      k_steps
      rename IntsAre _ (List.map _ _) => hB
      rw [List.filter_eq_self.mpr (fun _ _ => rfl)] at hB
      change IntsAre _ (bareL (lettersOf M i)) at hB
      have ov :∀ k,k < 3 → 0 ≤ ord.getD k 0 ∧ ord.getD k 0 < 3 :=fun k hk => ord_at ql qo hk
      have ein :exName ord M i = if bareL (lettersOf M i) ∈ [nmA,nmB,nmC] then M.take (32 * i + 1) ++ (((nms.getD (ord.getD (nms.idxOf (bareL (lettersOf M i))) 0).toNat []).zip (lettersOf M i)).map nmOne) ++ M.drop (32 * i + 12) else M :=rfl
      generalize hk :nms.idxOf (bareL (lettersOf M i)) = kx at ein
      have hk' :(([nmA,nmB,nmC] :List (List Int)).idxOf (bareL (lettersOf M i)) :Nat) = ((kx :Nat) :Int) :=by rw [← hk]; rfl
      refine ⟨?_⟩
      rw [List.append_nil]
      refine useN (law_names_ok (by assumption) (by ktr_unf) (by ktr_units) (by ktr_room)) (by k_asm) (by k_asm) ?_
      kts_go
      by_cases hin :bareL (lettersOf M i) ∈ [nmA,nmB,nmC]
      · have hd :decide (bareL (lettersOf M i) ∈ [nmA,nmB,nmC]) = true :=decide_eq_true hin
        rw [if_pos hin] at ein
        have hkx :kx < 3 :=hk ▸ nms_idx hin
        have ovk :=ov kx hkx
        k_steps
        refine ⟨?_⟩
        rw [List.append_nil]
        refine useN (law_names_ok (by assumption) (by ktr_unf) (by ktr_units) (by ktr_room)) (by k_asm) (by k_asm) ?_
        kts_go
        k_steps
        refine ⟨?_⟩
        rw [List.append_nil]
        refine useN (law_names_ok (by assumption) (by ktr_unf) (by ktr_units) (by ktr_room)) (by k_asm) (by k_asm) ?_
        kts_go
        k_steps
        refine ⟨?_⟩
        refine index3 (by k_asm) (List.Mem.head _) (List.Mem.tail _ (List.Mem.head _)) (List.Mem.tail _ (List.Mem.tail _ (List.Mem.head _))) (List.Mem.tail _ (List.Mem.tail _ (List.Mem.tail _ (List.Mem.head _)))) (by assumption) (by assumption) (by assumption) (by k_mem) hB (by have q9 :=lv.2; show _ + 64 < 9900; simp only [Around.deeper,AR]; omega) hin hk' ?_
        k_steps
        refine ⟨?_⟩
        refine item_list_ints (News.isList (by k_asm) (by k_mem)) qI (by omega) (by omega) (by omega) ?_
        intro to
        rw [Int.toNat_natCast]
        k_steps
        refine ⟨?_⟩
        refine item3 (by k_asm) (by k_mem) (by k_mem) (by k_mem) (by k_mem) (by assumption) (by assumption) (by assumption) ovk.1 ovk.2 ?_
        intro y0 ys0 k0 hy0 iy0
        have iy0 :IntsAre ys0 (nms.getD (ord.getD kx 0).toNat []) :=iy0
        rename News _ _ _ _ => N5
        have ll :(nms.getD (ord.getD kx 0).toNat []).length = 11 :=nms_len (by omega)
        generalize nms.getD (ord.getD kx 0).toNat [] = nw0 at ein iy0 ll
        obtain ⟨led,N6,mF,mY,mI,mN⟩ :∃ led,News _ _ _ led ∧ (f,listOf ws.toArray nf) ∈ led ∧ (y0,listOf ys0.toArray k0) ∈ led ∧ (I,it) ∈ led ∧ ∀ q ∈ news,q ∈ led :=⟨_,N5,by k_mem,by assumption,by k_mem,by ktr_rel⟩
        clear N5 hy0
        k_steps
        refine ⟨?_⟩
        k_dflt (refine slice_in (by k_asm) (by k_asm) (by k_mem) hW (by omega) (by omega) (by omega) (by omega) s12 ?_)
        intro D2 ws2 h2 F2 N2 hS2
        k_steps
        refine ⟨?_⟩
        k_dflt (refine zip_src (by rfl) (by k_asm) (by k_asm) (by k_mem) (by k_mem) iy0 hS2 (by rw [ll]; decide) (fun q y => ∃ u,y = .int (nmOne q) u) ?_ ?_)
        · intro a₁ b₁ t₁ u₁ C oC D₁ ys m₂ s' news' E' ha hb hC h1 h2 hs F N
          k_steps
          all_goals exact outL (by assumption) (by assumption) ⟨_,rfl⟩
        · intro D₁ h₁ tk₁ ys₁ hp₁ F3 N3 o3
          have hz :=paired_intsA hp₁
          have zl :(List.map nmOne (nw0.zip (lettersOf M i))).length = 11 :=by rw [List.length_map,List.length_zip,ll,l11]; rfl
          k_steps
          k_dflt (refine setSlice_in (a :=32 * i + 1) (b :=32 * i + 12) (by k_asm) (by k_asm) (by k_mem) hW (List.Mem.head _) hz (by omega) (by omega) (by omega) (by omega) (by omega) (by omega) (by omega) ?_)
          intro h4 w1 F4 N4 hW1
          rw [← ein] at hW1
          k_steps
          exact ex_end (by k_asm) N4 hW1 rfl List.mem_cons_self (List.mem_cons_of_mem _ (mem_dropN.mpr ⟨by k_mem,Nat.ne_of_gt ltI.1⟩)) fun q hq => List.mem_cons_of_mem _ (mem_dropN.mpr ⟨by have :=mN q hq; k_mem,f0 q hq⟩)
      · have hd :decide (bareL (lettersOf M i) ∈ [nmA,nmB,nmC]) = false :=decide_eq_false hin
        rw [if_neg hin] at ein
        refine in3 (by k_asm) (List.Mem.head _) (List.Mem.tail _ (List.Mem.head _)) (List.Mem.tail _ (List.Mem.tail _ (List.Mem.head _))) (List.Mem.tail _ (List.Mem.tail _ (List.Mem.tail _ (List.Mem.head _)))) (by assumption) (by assumption) (by assumption) (by k_mem) hB (by have q9 :=lv.2; show _ + 64 < 9900; simp only [Around.deeper,AR]; omega) hd ?_
        k_steps
        exact ex_end (by k_asm) (by k_asm) (ein ▸ hW) (fr_out (by decide) (by decide)) (by k_mem) (by k_mem) (by ktr_rel)
    · intro s'
      rintro ⟨h5,tk5,w1,vN,vL,ta,e5,hW1,F5,N5⟩
      subst e5
      generalize exName ord M i = M1 at hW1 l1 eS
      have lW1 :=hW1.length
      have ei :(32 * (i :Int)).toNat = 32 * i :=by omega
      have subA :∀ o,∀ q ∈ [(I,it)] ++ (f,o) :: news,q ∈ (f,o) :: (I,it) :: news :=fun o q hq => by
        rcases List.mem_append.mp hq with hq | hq
        · rw [List.mem_singleton.mp hq]; exact List.mem_cons_of_mem _ List.mem_cons_self
        · rcases List.mem_cons.mp hq with rfl | hq
          · exact List.mem_cons_self
          · exact List.mem_cons_of_mem _ (List.mem_cons_of_mem _ hq)
      have off1 :∀ o,∀ p ∈ (f,o) :: news,p.1 < I :=fun o p hp => (List.mem_cons.mp hp).elim (fun e => e ▸ ltI.1) fun hp => allLt ltI.2 p hp
      have eF :∀ N :List Int,exUser false N i = N :=fun N => by unfold exUser; rw [if_neg (fun h => nomatch h.2)]
      cases tn
      · rw [eF] at eS
        k_steps
        all_goals exact turnEnd2 ((f,listOf w1.toArray nf) :: news) (by k_asm) (by exact News.sub (by k_asm) (subA _)) (off_one (off1 _)) (but4_of fun z h1 h2 h3 h4 => by simp only [if_neg h1,if_neg h2,if_neg h3,if_neg h4]) ⟨w1,nf,rfl,eS ▸ hW1⟩
      · by_cases hu :M1.getD (32 * (i :Int)).toNat 0 < 2
        · have eT :exUser true M1 i = M1.set (32 * (i :Int)).toNat (1 - M1.getD (32 * (i :Int)).toNat 0) :=by unfold exUser; rw [ei] at hu ⊢; rw [if_pos ⟨hu,rfl⟩]
          rw [eT] at eS
          k_steps
          · refine turnEnd2 ((f,listOf _ nf) :: news) (by k_asm) (by exact News.sub (by k_asm) (subA _)) (off_one (off1 _)) (but4_of fun z h1 h2 h3 h4 => by simp only [if_neg h1,if_neg h2,if_neg h3,if_neg h4]) ⟨_,nf,rfl,?_⟩
            rw [eS]
            assumption
          all_goals contradiction
        · have eT :exUser true M1 i = M1 :=by unfold exUser; rw [ei] at hu; rw [if_neg (fun h => hu h.1)]
          rw [eT] at eS
          k_steps
          all_goals first
            | contradiction
            | exact turnEnd2 ((f,listOf w1.toArray nf) :: news) (by k_asm) (by exact News.sub (by k_asm) (subA _)) (off_one (off1 _)) (but4_of fun z h1 h2 h3 h4 => by simp only [if_neg h1,if_neg h2,if_neg h3,if_neg h4]) ⟨w1,nf,rfl,eS ▸ hW1⟩
  · rintro m₁ nw h tk ⟨v1,v2,v3,v4,rfl⟩ ⟨ws,nf,rfl,hW⟩ F' N'
    clear F1 N1
    k_steps
    ktr_step
    exact hW
theorem exchanged_ok {lo no :Nat} {os :List Value} {ord :List Int} {tn :Bool} :exchanged_ok_Q w dp un fr gd s mg mb G news a vs D lo no os ord tn :=exchanged_ok_L w dp un fr gd s mg mb G news a vs D lo no os ord tn
end
theorem kw119 :True :=by
  (k_with "mRangeRest" => (refine toStop ?_))
  (k_with "mcall builtin:list.index" => (refine toStop ?_))
  (k_with "mcall ref" => (refine toStop ?_))
  (k_with "mcall type:zip" => (refine toStop ?_))
  (k_with "mcompareOp In ref ref" => (refine toStop ?_))
  (k_with "meval ListComp" => (refine toStop ?_))
  (k_with "mexec Assign cons ListComp" => (refine toStop ?_))
  (k_with "mexec For Tuple Call" => (refine toStop ?_))
  (k_with "msetItem ref int" => (refine toStop ?_))
  (k_with "msubscriptTail Call" => (refine toStop ?_))
  (k_with "msubscriptTail Name Call" => (refine toStop ?_))
  (k_with "msubscriptTail Name Call ref int" => (refine toStop ?_))
  (k_with "msubscriptTail Name Slice ref ref" => (refine toStop ?_))
  trivial
end
section EMB
local macro_rules | `(tactic| intro $xs*) => inz xs.toList
local macro_rules | `(tactic| rintro ⟨$ps,*⟩) => rz ps.getElems.toList
local macro_rules | `(tactic| obtain $p:rcasesPatMed :=$e:term) => oz p e
local macro_rules | `(tactic| k_fold) => `(tactic| skip)
section
section
noncomputable def exRecN (ord r :List Int) :List Int :=
  if bareL ((r.drop 1).take 11) ∈ nms then r.take 1 ++ ((nms.getD (ord.getD (nms.idxOf (bareL ((r.drop 1).take 11))) 0).toNat []).zip ((r.drop 1).take 11)).map nmOne ++ r.drop 12 else r
noncomputable def exRecU (tn :Bool) (r :List Int) :List Int :=if r.getD 0 0 < 2 ∧ tn = true then r.set 0 (1 - r.getD 0 0) else r
noncomputable def exRec (ord :List Int) (tn :Bool) (r :List Int) :List Int :=exRecU tn (exRecN ord r)
theorem drop_at {A r B :List Int} {k :Nat} (h :k ≤ r.length) :(A ++ r ++ B).drop (A.length + k) = r.drop k ++ B :=by
  rw [List.append_assoc,List.drop_append,List.drop_of_length_le (by omega),List.nil_append,show A.length + k - A.length = k from by omega,List.drop_append,show k - r.length = 0 from by omega,List.drop_zero]
theorem take_at {A r B :List Int} {k :Nat} (h :k ≤ r.length) :(A ++ r ++ B).take (A.length + k) = A ++ r.take k :=by
  rw [List.append_assoc,List.take_append,List.take_of_length_le (by omega),show A.length + k - A.length = k from by omega,List.take_append,show k - r.length = 0 from by omega,List.take_zero,List.append_nil]
theorem rec_split {M :List Int} {i :Nat} (hM :M.length = 1408) (hi :i < 8) :M = M.take (32 * i) ++ recD M i ++ M.drop (32 * i + 32) :=by
  have e :M.drop (32 * i + 32) = (M.drop (32 * i)).drop 32 :=by rw [List.drop_drop]
  rw [e,recD,List.append_assoc,List.take_append_drop,List.take_append_drop]
theorem exName_rec {ord A r B :List Int} {i :Nat} (hA :A.length = 32 * i) (hr :r.length = 32) :exName ord (A ++ r ++ B) i = A ++ exRecN ord r ++ B :=by
  have e1 :lettersOf (A ++ r ++ B) i = (r.drop 1).take 11 :=by
    rw [lettersOf,← hA,drop_at (by omega),List.take_append,List.length_drop,hr,show 11 - (32 - 1) = 0 from rfl,List.take_zero,List.append_nil]
  unfold exName exRecN
  rw [e1]
  split
  · rw [← hA,take_at (by omega),drop_at (by omega)]
    simp only [List.append_assoc]
  · rfl
theorem exUser_rec {tn :Bool} {A r B :List Int} {i :Nat} (hA :A.length = 32 * i) (hr :0 < r.length) :exUser tn (A ++ r ++ B) i = A ++ exRecU tn r ++ B :=by
  have e1 :(A ++ r ++ B).getD (32 * i) 0 = r.getD 0 0 :=by
    rw [List.getD_eq_getElem?_getD,List.getD_eq_getElem?_getD,List.append_assoc,← hA,List.getElem?_append_right (Nat.le_refl _),Nat.sub_self,List.getElem?_append_left hr]
  unfold exUser exRecU
  rw [e1]
  split
  · rw [← hA,List.append_assoc,List.set_append_right _ _ (Nat.le_refl _),Nat.sub_self,List.set_append_left _ _ hr,List.append_assoc]
  · rfl
theorem recD_at {A r B :List Int} {k :Nat} (hA :A.length = 32 * k) (hr :r.length = 32) :recD (A ++ r ++ B) k = r :=by
  have e :=drop_at (A :=A) (r :=r) (B :=B) (k :=0) (by omega)
  rw [Nat.add_zero,List.drop_zero] at e
  rw [recD,← hA,e,List.take_append,hr,Nat.sub_self,List.take_zero,List.append_nil,List.take_of_length_le (by omega)]
theorem recD_other {A r r' B :List Int} {k j :Nat} (hA :A.length = 32 * k) (hr :r.length = 32) (hr' :r'.length = 32) (hj :j ≠ k) :recD (A ++ r ++ B) j = recD (A ++ r' ++ B) j :=by
  rcases Nat.lt_or_gt_of_ne hj with h | h
  · clear hr hr'
    have e :∀ x :List Int,recD (A ++ x ++ B) j = recD A j :=fun x => by
      rw [recD,recD,List.append_assoc,List.drop_append_of_le_length (by omega),List.take_append_of_le_length (by rw [List.length_drop]; omega)]
    rw [e,e]
  · have e :∀ x :List Int,x.length = 32 → recD (A ++ x ++ B) j = recD B (j - (k + 1)) :=fun x hx => by
      clear hr hr' r r' hj
      rw [recD,recD,List.drop_append,List.drop_of_length_le (by rw [List.length_append]; omega),List.nil_append,List.length_append,show 32 * j - (A.length + x.length) = 32 * (j - (k + 1)) from by rw [hA,hx,← Nat.mul_succ,Nat.mul_sub]]
    rw [e _ hr,e _ hr']
theorem tail_same {A r r' B :List Int} {k :Nat} (hk :k < 8) (hA :A.length = 32 * k) (hr :r.length = 32) (hr' :r'.length = 32) :(A ++ r ++ B).drop 256 = (A ++ r' ++ B).drop 256 :=by
  have e :∀ x :List Int,x.length = 32 → (A ++ x ++ B).drop 256 = B.drop (256 - (32 * k + 32)) :=fun x hx => by
    rw [List.drop_append,List.drop_of_length_le (by rw [List.length_append]; omega),List.nil_append,List.length_append,hA,hx]
  rw [e _ hr,e _ hr']
theorem exRecN_len {ord r :List Int} (ql :ord.length = 3) (qo :∀ x ∈ ord,0 ≤ x ∧ x < 3) (hr :r.length = 32) :(exRecN ord r).length = 32 :=by
  unfold exRecN
  split
  · rename_i h
    have o :=ord_at ql qo (nms_idx h)
    have n :=nms_len (j :=(ord.getD (nms.idxOf (bareL ((r.drop 1).take 11))) 0).toNat) (by omega)
    simp only [List.length_append,List.length_take,List.length_map,List.length_zip,List.length_drop,n,hr]
    omega
  · exact hr
theorem exRec_len {ord r :List Int} {tn :Bool} (ql :ord.length = 3) (qo :∀ x ∈ ord,0 ≤ x ∧ x < 3) (hr :r.length = 32) :(exRec ord tn r).length = 32 :=by
  unfold exRec exRecU
  split
  · rw [List.length_set]; exact exRecN_len ql qo hr
  · exact exRecN_len ql qo hr
theorem exStep_rec {ord A r B :List Int} {tn :Bool} {i :Nat} (ql :ord.length = 3) (qo :∀ x ∈ ord,0 ≤ x ∧ x < 3) (hA :A.length = 32 * i) (hr :r.length = 32) :exStep ord tn (A ++ r ++ B) i = A ++ exRec ord tn r ++ B :=by
  unfold exStep exRec
  rw [exName_rec hA hr,exUser_rec hA (by rw [exRecN_len ql qo hr]; omega)]
theorem exL_rec {ord D :List Int} {tn :Bool} (ql :ord.length = 3) (qo :∀ x ∈ ord,0 ≤ x ∧ x < 3) (hD :D.length = 1408) :∀ k,k ≤ 8 → (∀ j,j < 8 → recD (exL ord tn D k) j = if j < k then exRec ord tn (recD D j) else recD D j) ∧ (exL ord tn D k).drop 256 = D.drop 256
  | 0,_ => ⟨fun j _ => by rw [if_neg (Nat.not_lt_zero _)]; rfl,rfl⟩
  | k + 1,hk => by
    obtain ⟨h1,h2⟩ :_ :=exL_rec ql qo hD k (by omega)
    have lM :=exL_len (tn :=tn) ql qo hD k (by omega)
    rw [exL_succ]
    generalize exL ord tn D k = M at h1 h2 lM
    have sp :=rec_split lM (show k < 8 by omega)
    have lr :(recD M k).length = 32 :=by rw [recD,List.length_take,List.length_drop]; omega
    have lA :(M.take (32 * k)).length = 32 * k :=by rw [List.length_take]; omega
    have lR :=exRec_len (tn :=tn) ql qo lr
    have eS :exStep ord tn M k = M.take (32 * k) ++ exRec ord tn (recD M k) ++ M.drop (32 * k + 32) :=by
      conv => lhs; rw [sp]
      exact exStep_rec ql qo lA lr
    rw [eS]
    refine ⟨fun j hj => ?_,?_⟩
    · by_cases e :j = k
      · subst e
        rw [recD_at lA lR,h1 j hj,if_neg (Nat.lt_irrefl _),if_pos (Nat.lt_succ_self _)]
      · rw [recD_other (r' :=recD M k) lA lR lr e,← sp,h1 j hj]
        by_cases h :j < k
        · rw [if_pos h,if_pos (by omega)]
        · rw [if_neg h,if_neg (by omega)]
    · rw [tail_same (r' :=recD M k) (by omega) lA lR lr,← sp,h2]
end
end
section
section
open PySem
noncomputable def Plain (ps :List Int) :Prop :=∀ x ∈ ps,Builtin.bitAnd x 127 = x ∧ x ≠ 63
theorem match_iff :∀ {ps cur :List Int},ps.length = cur.length → Plain ps → ((ps.zip cur).all matchOne = true ↔ bareL cur = ps)
  | [],[],_,_ => by simp [bareL]
  | x :: ps,y :: cur,h,hp => by
    have hx :=hp x List.mem_cons_self
    have ih :=match_iff (ps :=ps) (cur :=cur) (by simpa using h) fun z hz => hp z (List.mem_cons_of_mem _ hz)
    rw [List.zip_cons_cons,List.all_cons,Bool.and_eq_true,ih]
    unfold bareL
    rw [List.map_cons,List.cons.injEq]
    unfold matchOne
    simp only [hx.1,Bool.or_eq_true,beq_iff_eq,hx.2,false_or]
    constructor
    · rintro (⟨a,b⟩); exact ⟨a.symm,b⟩
    · rintro (⟨a,b⟩); exact ⟨a.symm,b⟩
theorem plain_nms {j :Nat} (h :j < 3) :Plain (nms.getD j []) :=by
  match j,h with
  | 0,_ => unfold Plain nms nmA; decide +kernel
  | 1,_ => unfold Plain nms nmB; decide +kernel
  | 2,_ => unfold Plain nms nmC; decide +kernel
noncomputable def Oct (x :Int) :Prop :=0 ≤ x ∧ x < 256
theorem high_two {x :Int} (h :Oct x) :Builtin.bitAnd x 128 = if 128 ≤ x then 128 else 0 :=by
  have k :∀ n :Fin 256,Builtin.bitAnd (n.val :Int) 128 = if 128 ≤ (n.val :Int) then 128 else 0 :=by decide +kernel
  have :=k ⟨x.toNat,by have :=h.1; have :=h.2; omega⟩
  simpa [Int.toNat_of_nonneg h.1] using this
theorem low_bits {x :Int} (h :Oct x) :Builtin.bitAnd x 127 = x % 128 :=by
  have k :∀ n :Fin 256,Builtin.bitAnd (n.val :Int) 127 = (n.val :Int) % 128 :=by decide +kernel
  have :=k ⟨x.toNat,by have :=h.1; have :=h.2; omega⟩
  simpa [Int.toNat_of_nonneg h.1] using this
theorem or_two {x :Int} (h0 :0 ≤ x) (h1 :x < 128) :Builtin.bitOr x 0 = x ∧ Builtin.bitOr x 128 = x + 128 :=by
  have k :∀ n :Fin 128,Builtin.bitOr (n.val :Int) 0 = (n.val :Int) ∧ Builtin.bitOr (n.val :Int) 128 = (n.val :Int) + 128 :=by decide +kernel
  have :=k ⟨x.toNat,by omega⟩
  simpa [Int.toNat_of_nonneg h0] using this
theorem nmOne_eq {x y :Int} (h0 :0 ≤ x) (h1 :x < 128) (hy :Oct y) :nmOne (x,y) = if 128 ≤ y then x + 128 else x :=by
  unfold nmOne
  rw [high_two hy]
  split
  · exact (or_two h0 h1).2
  · exact (or_two h0 h1).1
end
end
section
section
open PySem
theorem take_ext {M N :List Int} (h :∀ j,j < 8 → recD M j = recD N j) :∀ k,k ≤ 8 → M.take (32 * k) = N.take (32 * k)
  | 0,_ => by simp
  | k + 1,hk => by
    have e :∀ X :List Int,X.take (32 * (k + 1)) = X.take (32 * k) ++ recD X k :=fun X => by
      rw [recD,show 32 * (k + 1) = 32 * k + 32 from by omega,List.take_add]
    rw [e,e,take_ext h k (by omega),h k (by omega)]
theorem rec_ext {M N :List Int} (h :∀ j,j < 8 → recD M j = recD N j) (ht :M.drop 256 = N.drop 256) :M = N :=by
  rw [← List.take_append_drop 256 M,← List.take_append_drop 256 N,ht,take_ext h 8 (Nat.le_refl _)]
theorem lay_split {D r :List Int} {k :Nat} (hD :D.length = 1408) (hk :k < 8) (hr :r.length = 32) :lay D (32 * k) r = D.take (32 * k) ++ r ++ D.drop (32 * k + 32) :=by rw [lay,hr]
theorem lay_len {D r :List Int} {b :Nat} (hb :b + r.length ≤ D.length) :(lay D b r).length = D.length :=lay_length hb
theorem recD_lay {D r :List Int} {k j :Nat} (hD :D.length = 1408) (hk :k < 8) (hr :r.length = 32) :recD (lay D (32 * k) r) j = if j = k then r else recD D j :=by
  have lA :(D.take (32 * k)).length = 32 * k :=by rw [List.length_take]; omega
  have lr :(recD D k).length = 32 :=by rw [recD,List.length_take,List.length_drop]; omega
  rw [lay_split hD hk hr]
  split
  · rename_i e; subst e; exact recD_at lA hr
  · rename_i e
    rw [recD_other (r' :=recD D k) lA hr lr e,← rec_split hD hk]
theorem tail_lay {D r :List Int} {k :Nat} (hD :D.length = 1408) (hk :k < 8) (hr :r.length = 32) :(lay D (32 * k) r).drop 256 = D.drop 256 :=by
  have lA :(D.take (32 * k)).length = 32 * k :=by rw [List.length_take]; omega
  have lr :(recD D k).length = 32 :=by rw [recD,List.length_take,List.length_drop]; omega
  rw [lay_split hD hk hr,tail_same (r' :=recD D k) hk lA hr lr,← rec_split hD hk]
theorem exL_lay {ord D r :List Int} {tn :Bool} {k :Nat} (ql :ord.length = 3) (qo :∀ x ∈ ord,0 ≤ x ∧ x < 3) (hD :D.length = 1408) (hk :k < 8) (hr :r.length = 32) :exL ord tn (lay D (32 * k) r) 8 = lay (exL ord tn D 8) (32 * k) (exRec ord tn r) :=by
  have l1 :(lay D (32 * k) r).length = 1408 :=by rw [lay_len (by omega),hD]
  have lE :=exL_len (tn :=tn) ql qo hD 8 (Nat.le_refl _)
  have lR :=exRec_len (tn :=tn) ql qo hr
  obtain ⟨a1,a2⟩ :_ :=exL_rec (tn :=tn) ql qo l1 8 (Nat.le_refl _)
  obtain ⟨b1,b2⟩ :_ :=exL_rec (tn :=tn) ql qo hD 8 (Nat.le_refl _)
  refine rec_ext (fun j hj => ?_) ?_
  · rw [a1 j hj,if_pos hj,recD_lay hD hk hr,recD_lay lE hk lR]
    split
    · rfl
    · rw [b1 j hj,if_pos hj]
  · rw [a2,tail_lay hD hk hr,tail_lay lE hk lR,b2]
theorem recD_layB {D r :List Int} {b j :Nat} (hb :256 ≤ b) (hD :D.length = 1408) (h1 :b + r.length ≤ 1408) (hj :j < 8) :recD (lay D b r) j = recD D j :=by
  rw [recD,recD,lay,List.append_assoc,List.drop_append_of_le_length (by rw [List.length_take]; omega),List.take_append_of_le_length (by rw [List.length_drop,List.length_take]; omega),List.drop_take,List.take_take]
  congr 1
  omega
theorem tail_layB {D r :List Int} {b :Nat} (hb :256 ≤ b) (hD :D.length = 1408) (h1 :b + r.length ≤ 1408) :(lay D b r).drop 256 = lay (D.drop 256) (b - 256) r :=by
  rw [lay,lay,List.append_assoc,List.drop_append_of_le_length (by rw [List.length_take]; omega),List.drop_take,List.drop_drop,List.append_assoc,show 256 + (b - 256 + r.length) = b + r.length from by omega]
theorem exL_layB {ord D r :List Int} {tn :Bool} {b :Nat} (ql :ord.length = 3) (qo :∀ x ∈ ord,0 ≤ x ∧ x < 3) (hD :D.length = 1408) (hb :256 ≤ b) (h1 :b + r.length ≤ 1408) :exL ord tn (lay D b r) 8 = lay (exL ord tn D 8) b r :=by
  have l1 :(lay D b r).length = 1408 :=by rw [lay_len (by omega),hD]
  have lE :=exL_len (tn :=tn) ql qo hD 8 (Nat.le_refl _)
  obtain ⟨a1,a2⟩ :_ :=exL_rec (tn :=tn) ql qo l1 8 (Nat.le_refl _)
  obtain ⟨b1,b2⟩ :_ :=exL_rec (tn :=tn) ql qo hD 8 (Nat.le_refl _)
  refine rec_ext (fun j hj => ?_) ?_
  · rw [a1 j hj,if_pos hj,recD_layB hb hD h1 hj,recD_layB hb lE h1 hj,b1 j hj,if_pos hj]
  · rw [a2,tail_layB hb hD h1,tail_layB hb lE h1,b2]
end
end
section
section
open PySem
noncomputable def flipU (tn :Bool) (b :Int) :Int :=if b < 2 ∧ tn = true then 1 - b else b
noncomputable def exRaw (ord cur :List Int) :List Int :=if bareL cur ∈ nms then ((nms.getD (ord.getD (nms.idxOf (bareL cur)) 0).toNat []).zip cur).map nmOne else cur
theorem exRaw_len {ord cur :List Int} (ql :ord.length = 3) (qo :∀ x ∈ ord,0 ≤ x ∧ x < 3) (hc :cur.length = 11) :(exRaw ord cur).length = 11 :=by
  unfold exRaw
  split
  · rename_i h
    have o :=ord_at ql qo (nms_idx h)
    have n :=nms_len (j :=(ord.getD (nms.idxOf (bareL cur)) 0).toNat) (by omega)
    rw [List.length_map,List.length_zip,n,hc]
    rfl
  · exact hc
theorem exRec_form {ord r :List Int} {tn :Bool} (hr :r.length = 32) :exRec ord tn r = flipU tn (r.getD 0 0) :: (exRaw ord ((r.drop 1).take 11) ++ r.drop 12) :=by
  obtain ⟨b,t,rfl⟩ :∃ b t,r = b :: t :=by
    cases r with
    | nil => cases hr
    | cons b t => exact ⟨b,t,rfl⟩
  have e :exRecN ord (b :: t) = b :: (exRaw ord (((b :: t).drop 1).take 11) ++ (b :: t).drop 12) :=by
    unfold exRecN exRaw
    split
    · rfl
    · show b :: t = b :: (t.take 11 ++ t.drop 11)
      rw [List.take_append_drop]
  unfold exRec
  rw [e]
  unfold exRecU flipU
  simp only [List.getD_cons_zero,List.set_cons_zero]
  split <;> rfl
noncomputable def exEnt (ord :List Int) (tn :Bool) (e :Ent) :Ent :={ e with user :=flipU tn e.user,raw :=exRaw ord e.raw }
theorem getD_drop {r :List Int} {a k :Nat} :(r.drop a).getD k 0 = r.getD (a + k) 0 :=by
  rw [List.getD_eq_getElem?_getD,List.getD_eq_getElem?_getD,List.getElem?_drop]
theorem getD_form {b :Int} {x y :List Int} {k :Nat} (hx :x.length = 11) (hk :12 ≤ k) :(b :: (x ++ y)).getD k 0 = y.getD (k - 12) 0 :=by
  obtain ⟨m,rfl⟩ :∃ m,k = m + 1 :=⟨k - 1,by omega⟩
  rw [List.getD_cons_succ,List.getD_eq_getElem?_getD,List.getElem?_append_right (by omega),hx,List.getD_eq_getElem?_getD,show m - 11 = m + 1 - 12 from by omega]
theorem entOf_ex {ord r :List Int} {tn :Bool} (ql :ord.length = 3) (qo :∀ x ∈ ord,0 ≤ x ∧ x < 3) (hr :r.length = 32) :entOf (exRec ord tn r) = exEnt ord tn (entOf r) :=by
  have lc :((r.drop 1).take 11).length = 11 :=by rw [List.length_take,List.length_drop]; omega
  have lx :=exRaw_len ql qo lc
  rw [exRec_form hr]
  generalize hX :exRaw ord ((r.drop 1).take 11) = X at lx
  have g :∀ k,12 ≤ k → (flipU tn (r.getD 0 0) :: (X ++ r.drop 12)).getD k 0 = r.getD k 0 :=fun k hk => by
    rw [getD_form lx hk,getD_drop,show 12 + (k - 12) = k from by omega]
  unfold entOf exEnt
  rw [g 14 (by omega),g 12 (by omega),g 13 (by omega),g 15 (by omega),hX]
  have e1 :(flipU tn (r.getD 0 0) :: (X ++ r.drop 12)).drop 1 = X ++ r.drop 12 :=rfl
  have e2 :(flipU tn (r.getD 0 0) :: (X ++ r.drop 12)).drop 16 = r.drop 16 :=by
    show (X ++ r.drop 12).drop 15 = _
    rw [List.drop_append,List.drop_of_length_le (by omega),List.nil_append,lx,List.drop_drop]
  rw [e1,e2,List.take_append_of_le_length (by omega),List.take_of_length_le (by omega)]
  rfl
theorem exRec_octs {ord :List Int} {tn :Bool} {e :Ent} (hw :e.raw.length = 11) (hm :e.map.length = 16) :exRec ord tn (entOcts e) = entOcts (exEnt ord tn e) :=by
  have lr :(entOcts e).length = 32 :=by simp [entOcts,hw,hm]
  rw [exRec_form lr]
  have e0 :(entOcts e).getD 0 0 = e.user :=rfl
  have e1 :((entOcts e).drop 1).take 11 = e.raw :=by
    show ((e.raw ++ [Int.fmod e.ext 32,e.sp,Int.fdiv e.ext 32,e.ct] ++ e.map)).take 11 = _
    rw [List.append_assoc,List.take_append_of_le_length (by omega),List.take_of_length_le (by omega)]
  have e2 :(entOcts e).drop 12 = [Int.fmod e.ext 32,e.sp,Int.fdiv e.ext 32,e.ct] ++ e.map :=by
    show ((e.raw ++ [Int.fmod e.ext 32,e.sp,Int.fdiv e.ext 32,e.ct] ++ e.map)).drop 11 = _
    rw [List.append_assoc,List.drop_append,List.drop_of_length_le (by omega),List.nil_append,hw,Nat.sub_self,List.drop_zero]
  rw [e0,e1,e2]
  simp [entOcts,exEnt]
end
end
section
section
open PySem
noncomputable def Low (ps :List Int) :Prop :=∀ x ∈ ps,0 ≤ x ∧ x < 128
theorem low_nms {j :Nat} (h :j < 3) :Low (nms.getD j []) :=by
  match j,h with
  | 0,_ => unfold Low nms nmA; decide
  | 1,_ => unfold Low nms nmB; decide
  | 2,_ => unfold Low nms nmC; decide
theorem nms_idxOf {k :Nat} (h :k < 3) :nms.idxOf (nms.getD k []) = k :=by
  match k,h with
  | 0,_ => decide
  | 1,_ => decide
  | 2,_ => decide
theorem nms_mem {k :Nat} (h :k < 3) :nms.getD k [] ∈ nms :=by
  match k,h with
  | 0,_ => decide
  | 1,_ => decide
  | 2,_ => decide
theorem nms_inj {j k :Nat} (hj :j < 3) (hk :k < 3) (e :nms.getD j [] = nms.getD k []) :j = k :=by
  rw [← nms_idxOf hj,← nms_idxOf hk,e]
theorem bare_new :∀ {ps cur :List Int},ps.length = cur.length → Low ps → (∀ x ∈ cur,Oct x) → bareL ((ps.zip cur).map nmOne) = ps
  | [],[],_,_,_ => rfl
  | x :: ps,y :: cur,h,hp,hc => by
    have hx :=hp x List.mem_cons_self
    have hy :=hc y List.mem_cons_self
    have ih :=bare_new (ps :=ps) (cur :=cur) (by simpa using h) (fun z hz => hp z (List.mem_cons_of_mem _ hz)) fun z hz => hc z (List.mem_cons_of_mem _ hz)
    have e :Builtin.bitAnd (nmOne (x,y)) 127 = x :=by
      rw [nmOne_eq hx.1 hx.2 hy]
      split
      · rw [low_bits ⟨by omega,by omega⟩]; omega
      · rw [low_bits ⟨by omega,by omega⟩]; omega
    rw [List.zip_cons_cons,List.map_cons]
    unfold bareL at ih ⊢
    rw [List.map_cons,e,ih]
theorem bare_in {ord cur :List Int} {k :Nat} (ql :ord.length = 3) (qo :∀ x ∈ ord,0 ≤ x ∧ x < 3) (hl :cur.length = 11) (hc :∀ x ∈ cur,Oct x) (hk :k < 3) (h :bareL cur = nms.getD k []) :bareL (exRaw ord cur) = nms.getD (ord.getD k 0).toNat [] :=by
  have o :=ord_at ql qo hk
  unfold exRaw
  rw [h,if_pos (nms_mem hk),nms_idxOf hk]
  exact bare_new (by rw [nms_len (by omega),hl]) (low_nms (by omega)) hc
theorem bare_out {ord cur :List Int} (h :bareL cur ∉ nms) :exRaw ord cur = cur :=by
  unfold exRaw
  rw [if_neg h]
theorem ord_inj {ord :List Int} (ql :ord.length = 3) (qn :ord.Nodup) {j k :Nat} (hj :j < 3) (hk :k < 3) (e :ord.getD j 0 = ord.getD k 0) :j = k :=by
  rw [List.getD_eq_getElem?_getD,List.getD_eq_getElem?_getD,List.getElem?_eq_getElem (by omega),List.getElem?_eq_getElem (by omega),Option.getD_some,Option.getD_some] at e
  have pw :=List.pairwise_iff_getElem.mp qn
  rcases Nat.lt_trichotomy j k with h | h | h
  · exact absurd e (pw j k (by omega) (by omega) h)
  · exact h
  · exact absurd e.symm (pw k j (by omega) (by omega) h)
theorem mem_nms {ls :List Int} (h :ls ∈ nms) :∃ k,k < 3 ∧ ls = nms.getD k [] :=by
  unfold nms at h
  simp only [List.mem_cons,List.not_mem_nil,or_false] at h
  rcases h with rfl | rfl | rfl
  · exact ⟨0,by omega,rfl⟩
  · exact ⟨1,by omega,rfl⟩
  · exact ⟨2,by omega,rfl⟩
theorem match_ex {ord cur :List Int} {j :Nat} (ql :ord.length = 3) (qo :∀ x ∈ ord,0 ≤ x ∧ x < 3) (qn :ord.Nodup) (hl :cur.length = 11) (hc :∀ x ∈ cur,Oct x) (hj :j < 3) :bareL (exRaw ord cur) = nms.getD (ord.getD j 0).toNat [] ↔ bareL cur = nms.getD j [] :=by
  have oj :=ord_at ql qo hj
  by_cases h :bareL cur ∈ nms
  · obtain ⟨k,hk,e⟩ :_ :=mem_nms h
    have ok :=ord_at ql qo hk
    rw [bare_in ql qo hl hc hk e,e]
    constructor
    · intros q
      have :=nms_inj (by omega) (by omega) q
      rw [ord_inj ql qn hk hj (by omega)]
    · intros q
      rw [nms_inj hk hj q]
  · rw [bare_out h]
    constructor
    · intros q; exact absurd (q ▸ nms_mem (by omega)) h
    · intros q; exact absurd (q ▸ nms_mem hj) h
theorem flip_inj {tn :Bool} {b u :Int} (hb :0 ≤ b) (hu :0 ≤ u ∧ u < 2) :flipU tn b = flipU tn u ↔ b = u :=by
  unfold flipU
  cases tn
  · simp
  · simp only [and_true]
    split <;> split <;> omega
end
end
section
section
open PySem
noncomputable def OctD (D :List Int) :Prop :=D.length = 1408 ∧ ∀ i,i < 8 → ∀ x ∈ recD D i,Oct x
theorem ex_at {ord D :List Int} {tn :Bool} {i :Nat} (ql :ord.length = 3) (qo :∀ x ∈ ord,0 ≤ x ∧ x < 3) (hD :D.length = 1408) (hi :i < 8) :recD (exL ord tn D 8) i = exRec ord tn (recD D i) :=by
  rw [(exL_rec (tn :=tn) ql qo hD 8 (Nat.le_refl _)).1 i hi,if_pos hi]
theorem form_user {ord r :List Int} {tn :Bool} (hr :r.length = 32) :(exRec ord tn r).getD 0 0 = flipU tn (r.getD 0 0) :=by
  rw [exRec_form hr,List.getD_cons_zero]
theorem form_letters {ord r :List Int} {tn :Bool} (ql :ord.length = 3) (qo :∀ x ∈ ord,0 ≤ x ∧ x < 3) (hr :r.length = 32) :((exRec ord tn r).drop 1).take 11 = exRaw ord ((r.drop 1).take 11) :=by
  have lx :=exRaw_len ql qo (show ((r.drop 1).take 11).length = 11 by rw [List.length_take,List.length_drop]; omega)
  rw [exRec_form hr]
  show (exRaw ord ((r.drop 1).take 11) ++ r.drop 12).take 11 = _
  rw [List.take_append_of_le_length (by omega),List.take_of_length_le (by omega)]
theorem findF_ex {ord D :List Int} {tn :Bool} {u :Int} {j i :Nat} (ql :ord.length = 3) (qo :∀ x ∈ ord,0 ≤ x ∧ x < 3) (qn :ord.Nodup) (hD :OctD D) (hu :0 ≤ u ∧ u < 2) (hj :j < 3) (hi :i < 8) :
    findF (exL ord tn D 8) (flipU tn u) (nms.getD (ord.getD j 0).toNat []) i = (findF D u (nms.getD j []) i).map (exEnt ord tn) :=by
  have lr :(recD D i).length = 32 :=by rw [recD,List.length_take,List.length_drop]; have :=hD.1; omega
  have oj :=ord_at ql qo hj
  have lc :((recD D i).drop 1 |>.take 11).length = 11 :=by rw [List.length_take,List.length_drop]; omega
  have oc :∀ x ∈ ((recD D i).drop 1).take 11,Oct x :=fun x hx => hD.2 i hi x (List.mem_of_mem_drop (List.mem_of_mem_take hx))
  have o0 :Oct ((recD D i).getD 0 0) :=by
    rw [List.getD_eq_getElem?_getD,List.getElem?_eq_getElem (by omega),Option.getD_some]
    exact hD.2 i hi _ (List.getElem_mem _)
  unfold findF
  rw [ex_at ql qo hD.1 hi,form_user lr,form_letters ql qo lr]
  have c :=and_congr (flip_inj (tn :=tn) o0.1 hu) ((match_iff (by rw [nms_len (by omega),exRaw_len ql qo lc]) (plain_nms (by omega))).trans ((match_ex ql qo qn lc oc hj).trans (match_iff (by rw [nms_len hj,lc]) (plain_nms hj)).symm))
  by_cases q :(recD D i).getD 0 0 = u ∧ ((nms.getD j []).zip ((recD D i).drop 1 |>.take 11)).all matchOne = true
  · rw [if_pos (c.mpr q),if_pos q,entOf_ex ql qo lr]; rfl
  · rw [if_neg fun z => q (c.mp z),if_neg q]; rfl
theorem rowsF_map {f g :Nat → Option Ent} {k :Ent → Ent} (h :∀ i,i < 8 → g i = (f i).map k) :rowsF g = (rowsF f).map fun r => (r.1,k r.2) :=by
  unfold rowsF
  rw [List.map_filterMap]
  have aux :∀ l :List Nat,(∀ i ∈ l,i < 8) → l.filterMap (fun i => (g i).map fun e => (i,e)) = l.filterMap (fun i => Option.map (fun r :Nat × Ent => (r.1,k r.2)) ((f i).map fun e => (i,e))) :=by
    intros l
    induction l with
    | nil => intros _; rfl
    | cons i l ih =>
      intros hl
      rw [List.filterMap_cons,List.filterMap_cons,h i (hl i List.mem_cons_self),ih fun x hx => hl x (List.mem_cons_of_mem _ hx)]
      cases f i <;> rfl
  exact aux _ fun i hi => List.mem_range.mp hi
end
end
section
section
open PySem
theorem find_same {p q :Nat → Bool} :∀ {l :List Nat},(∀ i ∈ l,p i = q i) → l.find? p = l.find? q
  | [],_ => rfl
  | i :: l,h => by
    rw [List.find?_cons,List.find?_cons,h i List.mem_cons_self,find_same fun x hx => h x (List.mem_cons_of_mem _ hx)]
theorem getD_rec {D :List Int} {i :Nat} :D.getD (32 * i) 0 = (recD D i).getD 0 0 :=by
  rw [recD,List.getD_eq_getElem?_getD,List.getD_eq_getElem?_getD,List.getElem?_take,if_pos (by omega),List.getElem?_drop,Nat.add_zero]
theorem flip_free {tn :Bool} {b :Int} (hb :0 ≤ b) :flipU tn b = 229 ↔ b = 229 :=by
  unfold flipU
  split <;> omega
theorem oct_user {D :List Int} {i :Nat} (hD :OctD D) (hi :i < 8) :Oct ((recD D i).getD 0 0) :=by
  have lr :(recD D i).length = 32 :=by rw [recD,List.length_take,List.length_drop]; have :=hD.1; omega
  rw [List.getD_eq_getElem?_getD,List.getElem?_eq_getElem (by omega),Option.getD_some]
  exact hD.2 i hi _ (List.getElem_mem _)
theorem freeE_ex {ord D :List Int} {tn :Bool} (ql :ord.length = 3) (qo :∀ x ∈ ord,0 ≤ x ∧ x < 3) (hD :OctD D) :freeE (exL ord tn D 8) = freeE D :=by
  unfold freeE
  refine find_same fun i hi => ?_
  have hi :=List.mem_range.mp hi
  have lr :(recD D i).length = 32 :=by rw [recD,List.length_take,List.length_drop]; have :=hD.1; omega
  rw [getD_rec,getD_rec,ex_at ql qo hD.1 hi,form_user lr]
  exact decide_eq_decide.mpr (flip_free (oct_user hD hi).1)
theorem liveF_ex {ord D :List Int} {tn :Bool} {i :Nat} (ql :ord.length = 3) (qo :∀ x ∈ ord,0 ≤ x ∧ x < 3) (hD :OctD D) (hi :i < 8) :liveF (exL ord tn D 8) i = (liveF D i).map (exEnt ord tn) :=by
  have lr :(recD D i).length = 32 :=by rw [recD,List.length_take,List.length_drop]; have :=hD.1; omega
  unfold liveF
  rw [ex_at ql qo hD.1 hi,form_user lr]
  have c :=flip_free (tn :=tn) (oct_user hD hi).1
  by_cases q :(recD D i).getD 0 0 = 229
  · rw [if_pos (c.mpr q),if_pos q]; rfl
  · rw [if_neg fun z => q (c.mp z),if_neg q,entOf_ex ql qo lr]; rfl
theorem markAll_map {k :Ent → Ent} (hk :∀ e,(k e).map = e.map) :∀ (rs :List (Nat × Ent)) (bs :List Bool),markAll bs (rs.map fun r => (r.1,k r.2)) = markAll bs rs
  | [],_ => rfl
  | r :: rs,bs => by
    unfold markAll
    rw [List.map_cons,List.foldl_cons,List.foldl_cons,hk]
    exact markAll_map hk rs _
theorem usedL_ex {ord D :List Int} {tn :Bool} (ql :ord.length = 3) (qo :∀ x ∈ ord,0 ≤ x ∧ x < 3) (hD :OctD D) :usedL (exL ord tn D 8) = usedL D :=by
  unfold usedL
  rw [rowsF_map (f :=liveF D) (k :=exEnt ord tn) fun i hi => liveF_ex ql qo hD hi]
  exact markAll_map (k :=exEnt ord tn) (fun _ => rfl) _ _
theorem blocksF_map {f g :Nat → Option Ent} {k :Ent → Ent} (hk :∀ e,(k e).map = e.map) (h :∀ i,i < 8 → g i = (f i).map k) :blocksF g = blocksF f :=by
  unfold blocksF
  rw [rowsF_map h]
  generalize rowsF f = rs
  induction rs with
  | nil => rfl
  | cons r rs ih => rw [List.map_cons,List.flatMap_cons,List.flatMap_cons,ih,hk]
end
end
section
section
open PySem
theorem exL_edit {ord :List Int} {tn :Bool} {g g' :List Int → List Int} (ql :ord.length = 3) (qo :∀ x ∈ ord,0 ≤ x ∧ x < 3) :∀ (rs :List (Nat × Ent)) (D :List Int),D.length = 1408 → (∀ r ∈ rs,r.1 < 8 ∧ (g r.2.raw).length = 11 ∧ r.2.map.length = 16 ∧ exRaw ord (g r.2.raw) = g' (exRaw ord r.2.raw)) →
    exL ord tn (editAll g D rs) 8 = editAll g' (exL ord tn D 8) (rs.map fun r => (r.1,exEnt ord tn r.2))
  | [],D,hD,_ => by unfold editAll; rw [List.map_nil,List.foldl_nil,List.foldl_nil]
  | r :: rs,D,hD,h => by
    obtain ⟨h1,h2,h3,h4⟩ :_ :=h r List.mem_cons_self
    have lo :(entOcts { r.2 with raw :=g r.2.raw }).length = 32 :=by simp [entOcts,h2,h3]
    have l1 :(lay D (32 * r.1) (entOcts { r.2 with raw :=g r.2.raw })).length = 1408 :=by rw [lay_len (by omega),hD]
    have ih :=exL_edit (tn :=tn) ql qo rs _ l1 fun x hx => h x (List.mem_cons_of_mem _ hx)
    have e :exRec ord tn (entOcts { r.2 with raw :=g r.2.raw }) = entOcts { exEnt ord tn r.2 with raw :=g' (exEnt ord tn r.2).raw } :=by
      rw [exRec_octs (e :={ r.2 with raw :=g r.2.raw }) h2 h3]
      simp only [exEnt,h4]
    unfold editAll at ih ⊢
    rw [List.map_cons,List.foldl_cons,List.foldl_cons,ih,exL_lay ql qo hD h1 lo,e]
theorem set_lay {D :List Int} {k :Nat} {v :Int} (hD :D.length = 1408) (hk :k < 8) :D.set (32 * k) v = lay D (32 * k) ((recD D k).set 0 v) :=by
  have lr :(recD D k).length = 32 :=by rw [recD,List.length_take,List.length_drop]; omega
  have lA :(D.take (32 * k)).length = 32 * k :=by rw [List.length_take]; omega
  rw [lay_split hD hk (by rw [List.length_set,lr])]
  conv => lhs; rw [rec_split hD hk]
  rw [List.append_assoc,List.set_append_right _ _ (by omega),lA,Nat.sub_self,List.set_append_left _ _ (by omega),List.append_assoc]
theorem exRec_erase {ord r :List Int} {tn :Bool} (hr :r.length = 32) :exRec ord tn (r.set 0 229) = (exRec ord tn r).set 0 229 :=by
  obtain ⟨b,t,rfl⟩ :∃ b t,r = b :: t :=by
    cases r with
    | nil => cases hr
    | cons b t => exact ⟨b,t,rfl⟩
  rw [List.set_cons_zero,exRec_form (by simpa using hr),exRec_form hr,List.set_cons_zero,List.getD_cons_zero]
  have :flipU tn 229 = 229 :=by unfold flipU; rw [if_neg (fun h => by omega)]
  rw [this]
  rfl
theorem exL_set {ord D :List Int} {tn :Bool} {k :Nat} (ql :ord.length = 3) (qo :∀ x ∈ ord,0 ≤ x ∧ x < 3) (hD :D.length = 1408) (hk :k < 8) :exL ord tn (D.set (32 * k) 229) 8 = (exL ord tn D 8).set (32 * k) 229 :=by
  have lr :(recD D k).length = 32 :=by rw [recD,List.length_take,List.length_drop]; omega
  have lE :=exL_len (tn :=tn) ql qo hD 8 (Nat.le_refl _)
  rw [set_lay hD hk,exL_lay ql qo hD hk (by rw [List.length_set,lr]),exRec_erase lr,set_lay lE hk,ex_at ql qo hD hk]
theorem exL_erase {ord :List Int} {tn :Bool} (ql :ord.length = 3) (qo :∀ x ∈ ord,0 ≤ x ∧ x < 3) :∀ (rs :List (Nat × Ent)) (D :List Int),D.length = 1408 → (∀ r ∈ rs,r.1 < 8) →
    exL ord tn (eraseAll D rs) 8 = eraseAll (exL ord tn D 8) (rs.map fun r => (r.1,exEnt ord tn r.2))
  | [],D,hD,_ => by unfold eraseAll; rw [List.map_nil,List.foldl_nil,List.foldl_nil]
  | r :: rs,D,hD,h => by
    have ih :=exL_erase (tn :=tn) ql qo rs (D.set (32 * r.1) 229) (by rw [List.length_set,hD]) fun x hx => h x (List.mem_cons_of_mem _ hx)
    unfold eraseAll at ih ⊢
    rw [List.map_cons,List.foldl_cons,List.foldl_cons,ih,exL_set ql qo hD (h r List.mem_cons_self)]
end
end
section
section
open PySem
theorem two_or {x :Int} (h0 :0 ≤ x) (h1 :x < 128) :Builtin.bitOr 0 x = x ∧ Builtin.bitOr 128 x = x + 128 :=by
  have k :∀ n :Fin 128,Builtin.bitOr 0 (n.val :Int) = (n.val :Int) ∧ Builtin.bitOr 128 (n.val :Int) = (n.val :Int) + 128 :=by decide +kernel
  have :=k ⟨x.toNat,by omega⟩
  simpa [Int.toNat_of_nonneg h0] using this
noncomputable def high (x y :Int) :Int :=if 128 ≤ y then x + 128 else x
theorem nmOne_high {x y :Int} (h0 :0 ≤ x) (h1 :x < 128) (hy :Oct y) :nmOne (x,y) = high x y :=nmOne_eq h0 h1 hy
theorem nameOne_high {x y :Int} (h0 :0 ≤ x) (h1 :x < 128) (hy :Oct y) :nameOne (y,x) = high x y :=by
  unfold nameOne high
  have e :Builtin.bitAnd x 127 = x :=by rw [low_bits ⟨h0,by omega⟩]; omega
  show Builtin.bitOr (Builtin.bitAnd y 128) (Builtin.bitAnd x 127) = _
  rw [high_two hy,e]
  split
  · exact (two_or h0 h1).2
  · exact (two_or h0 h1).1
theorem flagOne_high {x y :Int} (hx :Oct x) (hy :Oct y) :flagOne (x,y) = high (x % 128) y :=by
  unfold flagOne high
  show Builtin.bitOr (Builtin.bitAnd x 127) (Builtin.bitAnd y 128) = _
  rw [high_two hy,low_bits hx]
  have o :=or_two (x :=x % 128) (by omega) (by omega)
  split
  · exact o.2
  · exact o.1
theorem high_oct {x y :Int} (h0 :0 ≤ x) (h1 :x < 128) :Oct (high x y) :=by
  unfold high Oct
  split <;> omega
theorem high_keeps {x y :Int} (h0 :0 ≤ x) (h1 :x < 128) :128 ≤ high x y ↔ 128 ≤ y :=by
  unfold high
  split <;> omega
theorem high_low {x y :Int} (h0 :0 ≤ x) (h1 :x < 128) :high x y % 128 = x :=by
  unfold high
  split <;> omega
theorem high_high {x y z :Int} (h0 :0 ≤ y) (h1 :y < 128) :high x (high y z) = high x z :=by
  unfold high
  split <;> split <;> (try split) <;> omega
end
end
section
section
open PySem
theorem nm_high :∀ {ps cur :List Int},Low ps → (∀ x ∈ cur,Oct x) → (ps.zip cur).map nmOne = List.zipWith high ps cur
  | [],_,_,_ => rfl
  | _ :: _,[],_,_ => rfl
  | x :: ps,y :: cur,hp,hc => by
    have hx :=hp x List.mem_cons_self
    rw [List.zip_cons_cons,List.map_cons,List.zipWith_cons_cons,nmOne_high hx.1 hx.2 (hc y List.mem_cons_self),nm_high (fun z hz => hp z (List.mem_cons_of_mem _ hz)) fun z hz => hc z (List.mem_cons_of_mem _ hz)]
theorem name_high :∀ {ps cur :List Int},Low ps → (∀ x ∈ cur,Oct x) → nameRaw ps cur = List.zipWith high ps cur
  | [],[],_,_ => rfl
  | [],_ :: _,_,_ => rfl
  | _ :: _,[],_,_ => rfl
  | x :: ps,y :: cur,hp,hc => by
    have hx :=hp x List.mem_cons_self
    have ih :=name_high (ps :=ps) (cur :=cur) (fun z hz => hp z (List.mem_cons_of_mem _ hz)) fun z hz => hc z (List.mem_cons_of_mem _ hz)
    unfold nameRaw at ih ⊢
    rw [List.zip_cons_cons,List.map_cons,List.zipWith_cons_cons,nameOne_high hx.1 hx.2 (hc y List.mem_cons_self),ih]
theorem high_twice :∀ {ps qs cur :List Int},qs.length = cur.length → Low qs → List.zipWith high ps (List.zipWith high qs cur) = List.zipWith high ps cur
  | [],_,_,_,_ => rfl
  | _ :: _,[],[],_,_ => rfl
  | x :: ps,y :: qs,z :: cur,h,hq => by
    have hy :=hq y List.mem_cons_self
    rw [List.zipWith_cons_cons,List.zipWith_cons_cons,List.zipWith_cons_cons,high_high hy.1 hy.2,high_twice (by simpa using h) fun w hw => hq w (List.mem_cons_of_mem _ hw)]
end
end
section
section
open PySem
theorem oct_zip :∀ {ps cur :List Int},Low ps → ∀ z ∈ List.zipWith high ps cur,Oct z
  | [],_,_,_,h => by simp at h
  | _ :: _,[],_,_,h => by simp at h
  | x :: ps,y :: cur,hp,z,h => by
    have hx :=hp x List.mem_cons_self
    rw [List.zipWith_cons_cons] at h
    rcases List.mem_cons.mp h with rfl | h
    · exact high_oct hx.1 hx.2
    · exact oct_zip (fun w hw => hp w (List.mem_cons_of_mem _ hw)) z h
theorem exRaw_cases {ord cur :List Int} (ql :ord.length = 3) (qo :∀ x ∈ ord,0 ≤ x ∧ x < 3) (hl :cur.length = 11) (hc :∀ x ∈ cur,Oct x) :exRaw ord cur = cur ∨ ∃ k,k < 3 ∧ exRaw ord cur = List.zipWith high (nms.getD k []) cur :=by
  by_cases h :bareL cur ∈ nms
  · obtain ⟨k,hk,e⟩ :_ :=mem_nms h
    have o :=ord_at ql qo hk
    refine .inr ⟨(ord.getD k 0).toNat,by omega,?_⟩
    unfold exRaw
    rw [if_pos h,e,nms_idxOf hk,nm_high (low_nms (by omega)) hc]
  · exact .inl (bare_out h)
theorem name_ex {ord raw :List Int} {m :Nat} (ql :ord.length = 3) (qo :∀ x ∈ ord,0 ≤ x ∧ x < 3) (hl :raw.length = 11) (hc :∀ x ∈ raw,Oct x) (hm :m < 3) :exRaw ord (nameRaw (nms.getD m []) raw) = nameRaw (nms.getD (ord.getD m 0).toNat []) (exRaw ord raw) :=by
  have o :=ord_at ql qo hm
  have lm :=nms_len hm
  have e1 :nameRaw (nms.getD m []) raw = List.zipWith high (nms.getD m []) raw :=name_high (low_nms hm) hc
  have b1 :bareL (List.zipWith high (nms.getD m []) raw) = nms.getD m [] :=by
    rw [← nm_high (low_nms hm) hc]
    exact bare_new (by rw [lm,hl]) (low_nms hm) hc
  have e2 :exRaw ord (List.zipWith high (nms.getD m []) raw) = List.zipWith high (nms.getD (ord.getD m 0).toNat []) raw :=by
    unfold exRaw
    rw [b1,if_pos (nms_mem hm),nms_idxOf hm,nm_high (low_nms (by omega)) (oct_zip (low_nms hm)),high_twice (by rw [lm,hl]) (low_nms hm)]
  rw [e1,e2]
  rcases exRaw_cases ql qo hl hc with e | ⟨k,hk,e⟩
  · rw [e,name_high (low_nms (by omega)) hc]
  · rw [e,name_high (low_nms (by omega)) (oct_zip (low_nms hk)),high_twice (by rw [nms_len hk,hl]) (low_nms hk)]
end
end
section
section
open PySem
theorem zw_getD :∀ {ps cur :List Int} {k :Nat},ps.length = cur.length → k < cur.length → (List.zipWith high ps cur).getD k 0 = high (ps.getD k 0) (cur.getD k 0)
  | [],[],k,_,h => absurd h (Nat.not_lt_zero _)
  | x :: ps,y :: cur,0,_,_ => rfl
  | x :: ps,y :: cur,k + 1,h,hk => by
    rw [List.zipWith_cons_cons,List.getD_cons_succ,List.getD_cons_succ,List.getD_cons_succ]
    exact zw_getD (by simpa using h) (by simpa using hk)
theorem low_at {ps :List Int} {k :Nat} (hp :Low ps) :0 ≤ ps.getD k 0 ∧ ps.getD k 0 < 128 :=by
  by_cases h :k < ps.length
  · rw [List.getD_eq_getElem?_getD,List.getElem?_eq_getElem h]
    exact hp _ (List.getElem_mem h)
  · rw [List.getD_eq_getElem?_getD,List.getElem?_eq_none (by omega)]
    decide
theorem flag_ex {ord cur :List Int} {k :Nat} (ql :ord.length = 3) (qo :∀ x ∈ ord,0 ≤ x ∧ x < 3) (hl :cur.length = 11) (hc :∀ x ∈ cur,Oct x) (hk :k < 11) :128 ≤ (exRaw ord cur).getD k 0 ↔ 128 ≤ cur.getD k 0 :=by
  rcases exRaw_cases ql qo hl hc with e | ⟨j,hj,e⟩
  · rw [e]
  · have lo :=low_at (k :=k) (low_nms hj)
    rw [e,zw_getD (by rw [nms_len hj,hl]) (by omega)]
    exact high_keeps lo.1 lo.2
theorem exRaw_oct {ord cur :List Int} (ql :ord.length = 3) (qo :∀ x ∈ ord,0 ≤ x ∧ x < 3) (hl :cur.length = 11) (hc :∀ x ∈ cur,Oct x) :∀ x ∈ exRaw ord cur,Oct x :=by
  rcases exRaw_cases ql qo hl hc with e | ⟨j,hj,e⟩
  · rw [e]; exact hc
  · rw [e]; exact oct_zip (low_nms hj)
theorem zw_low :∀ {ps cur :List Int},ps.length = cur.length → Low cur → List.zipWith high ps cur = ps
  | [],[],_,_ => rfl
  | x :: ps,y :: cur,h,hl => by
    have hy :=hl y List.mem_cons_self
    rw [List.zipWith_cons_cons,zw_low (by simpa using h) fun z hz => hl z (List.mem_cons_of_mem _ hz)]
    unfold high
    rw [if_neg (by omega)]
theorem low_oct {ps :List Int} (h :Low ps) :∀ x ∈ ps,Oct x :=fun x hx => ⟨(h x hx).1,by have :=(h x hx).2; omega⟩
theorem bare_low :∀ {ps :List Int},Low ps → bareL ps = ps
  | [],_ => rfl
  | x :: ps,h => by
    have hx :=h x List.mem_cons_self
    unfold bareL
    rw [List.map_cons]
    have :=bare_low (ps :=ps) fun z hz => h z (List.mem_cons_of_mem _ hz)
    unfold bareL at this
    rw [this,low_bits ⟨hx.1,by omega⟩,Int.emod_eq_of_lt hx.1 hx.2]
theorem exRaw_nms {ord :List Int} {j :Nat} (ql :ord.length = 3) (qo :∀ x ∈ ord,0 ≤ x ∧ x < 3) (hj :j < 3) :exRaw ord (nms.getD j []) = nms.getD (ord.getD j 0).toNat [] :=by
  have o :=ord_at ql qo hj
  unfold exRaw
  rw [bare_low (low_nms hj),if_pos (nms_mem hj),nms_idxOf hj,nm_high (low_nms (by omega)) (low_oct (low_nms hj)),zw_low (by rw [nms_len (by omega),nms_len hj]) (low_nms hj)]
theorem flag_high :∀ {rs fs :List Int},(∀ x ∈ rs,Oct x) → (∀ x ∈ fs,Oct x) → flagRaw fs rs = List.zipWith high (bareL rs) fs
  | [],[],_,_ => rfl
  | [],_ :: _,_,_ => rfl
  | _ :: _,[],_,_ => rfl
  | x :: rs,y :: fs,hr,hf => by
    have hx :=hr x List.mem_cons_self
    have ih :=flag_high (rs :=rs) (fs :=fs) (fun z hz => hr z (List.mem_cons_of_mem _ hz)) fun z hz => hf z (List.mem_cons_of_mem _ hz)
    unfold flagRaw bareL at ih ⊢
    rw [List.zip_cons_cons,List.map_cons,List.map_cons,List.zipWith_cons_cons,flagOne_high hx (hf y List.mem_cons_self),ih,low_bits hx]
noncomputable abbrev flagsOf (sp :Int) :List Int :=[0,0,0,0,0,0,0,0,128 * sp.fmod 2,0,0]
theorem two_cases (sp :Int) :sp.fmod 2 = 0 ∨ sp.fmod 2 = 1 :=by
  rw [Int.fmod_eq_emod_of_nonneg _ (by decide)]
  omega
theorem attr_oct {j :Nat} {sp :Int} (hj :j < 3) :(∀ x ∈ attrRaw (nms.getD j []) sp,Oct x) ∧ (attrRaw (nms.getD j []) sp).length = 11 ∧ bareL (attrRaw (nms.getD j []) sp) = nms.getD j [] :=by
  unfold Oct
  rcases two_cases sp with h | h <;> rw [attrRaw,h] <;> match j,hj with
  | 0,_ => decide +kernel
  | 1,_ => decide +kernel
  | 2,_ => decide +kernel
theorem attr_high {j :Nat} {sp :Int} {p :List Int} (hj :j < 3) :List.zipWith high p (attrRaw (nms.getD j []) sp) = List.zipWith high p (flagsOf sp) :=by
  have e :∀ {x :Int} {a b :Int} (p :List Int) {l l' :List Int},(128 ≤ a ↔ 128 ≤ b) → (∀ q,List.zipWith high q l = List.zipWith high q l') → List.zipWith high p (a :: l) = List.zipWith high p (b :: l') :=fun {x a b} p {l l'} h hl => by
    cases p with
    | nil => rfl
    | cons x p =>
      rw [List.zipWith_cons_cons,List.zipWith_cons_cons,hl p]
      congr 1
      unfold high
      by_cases q :128 ≤ a
      · rw [if_pos q,if_pos (h.mp q)]
      · rw [if_neg q,if_neg fun z => q (h.mpr z)]
  have k :∀ a b :List Int,a.length = b.length → (∀ i,i < b.length → (128 ≤ a.getD i 0 ↔ 128 ≤ b.getD i 0)) → ∀ p,List.zipWith high p a = List.zipWith high p b :=by
    intros a
    induction a with
    | nil => intros b hb _ p; cases b with
      | nil => rfl
      | cons _ _ => cases hb
    | cons x a ih =>
      intros b hb h p
      cases b with
      | nil => cases hb
      | cons y b =>
        refine e (x :=0) p (h 0 (Nat.succ_pos _)) (ih b (by simpa using hb) fun i hi => ?_)
        exact h (i + 1) (by simpa using hi)
  refine k _ _ ?_ ?_ p
  · rw [(attr_oct hj).2.1]; rfl
  · rcases two_cases sp with h | h <;> rw [attrRaw,flagsOf,h] <;> match j,hj with
    | 0,_ => decide +kernel
    | 1,_ => decide +kernel
    | 2,_ => decide +kernel
theorem attr_ex {ord raw :List Int} {j :Nat} {sp :Int} (ql :ord.length = 3) (qo :∀ x ∈ ord,0 ≤ x ∧ x < 3) (hl :raw.length = 11) (hc :∀ x ∈ raw,Oct x) (hj :j < 3) (hb :bareL raw = nms.getD j []) :
    exRaw ord (flagRaw (attrRaw (nms.getD j []) sp) raw) = flagRaw (attrRaw (nms.getD (ord.getD j 0).toNat []) sp) (exRaw ord raw) :=by
  have o :=ord_at ql qo hj
  have a :=attr_oct (sp :=sp) hj
  have b :=attr_oct (j :=(ord.getD j 0).toNat) (sp :=sp) (by omega)
  rw [flag_high hc a.1,flag_high (exRaw_oct ql qo hl hc) b.1,bare_in ql qo hl hc hj hb,hb,attr_high hj,attr_high (by omega)]
  have fo :∀ x ∈ flagsOf sp,Oct x :=by
    unfold Oct
    rcases two_cases sp with h | h <;> rw [flagsOf,h] <;> decide
  have e :bareL (List.zipWith high (nms.getD j []) (flagsOf sp)) = nms.getD j [] :=by
    rw [← nm_high (low_nms hj) fo]
    exact bare_new (by rw [nms_len hj]; rfl) (low_nms hj) fo
  unfold exRaw
  rw [e,if_pos (nms_mem hj),nms_idxOf hj,nm_high (low_nms (by omega)) (oct_zip (low_nms hj)),high_twice (by rw [nms_len hj]; rfl) (low_nms hj)]
end
end
section
section
open PySem
noncomputable def liveB (r :List Int) :Nat :=if r.getD 0 0 = 229 then 0 else 1
noncomputable def nzB (r :List Int) :Nat :=if r.getD 0 0 = 229 then 0 else (r.drop 16).countP fun x => decide (x ≠ 0)
noncomputable def MapOk (m :List Int) :Prop :=∀ x ∈ m,x = 0 ∨ 2 ≤ x ∧ x < 11
structure RecOk (r :List Int) :Prop where
  len :r.length = 32
  oct :∀ x ∈ r,Oct x
  mp :r.getD 0 0 ≠ 229 → MapOk (r.drop 16)
  ct :r.getD 0 0 ≠ 229 → r.getD 15 0 ≤ 64
structure EntOk (e :Ent) :Prop where
  u :Oct e.user ∧ e.user ≠ 229
  rl :e.raw.length = 11
  ro :∀ x ∈ e.raw,Oct x
  x :0 ≤ e.ext ∧ e.ext < 8192
  sp :Oct e.sp
  ct :0 ≤ e.ct ∧ e.ct ≤ 64
  ml :e.map.length = 16
  mp :MapOk e.map
theorem MapOk.oct {m :List Int} (h :MapOk m) :∀ x ∈ m,Oct x :=fun x hx => by
  rcases h x hx with rfl | h
  · exact ⟨by decide,by decide⟩
  · exact ⟨by omega,by omega⟩
theorem octs_len {e :Ent} (h :e.raw.length = 11) (hm :e.map.length = 16) :(entOcts e).length = 32 :=by simp [entOcts,h,hm]
theorem octs_map {e :Ent} (h :e.raw.length = 11) :(entOcts e).drop 16 = e.map :=by
  show ((e.raw ++ [Int.fmod e.ext 32,e.sp,Int.fdiv e.ext 32,e.ct] ++ e.map)).drop 15 = _
  rw [List.drop_append,List.drop_of_length_le (by rw [List.length_append,h]; exact Nat.le_refl _),List.nil_append,List.length_append,h]
  rfl
theorem octs_four {e :Ent} {k :Nat} (h :e.raw.length = 11) :(entOcts e).getD (12 + k) 0 = ([Int.fmod e.ext 32,e.sp,Int.fdiv e.ext 32,e.ct] ++ e.map).getD k 0 :=by
  have :(entOcts e).drop 12 = [Int.fmod e.ext 32,e.sp,Int.fdiv e.ext 32,e.ct] ++ e.map :=by
    show ((e.raw ++ [Int.fmod e.ext 32,e.sp,Int.fdiv e.ext 32,e.ct] ++ e.map)).drop 11 = _
    rw [List.append_assoc,List.drop_append,List.drop_of_length_le (by omega),List.nil_append,h,Nat.sub_self,List.drop_zero]
  rw [← getD_drop,this]
theorem octs_ct {e :Ent} (h :e.raw.length = 11) :(entOcts e).getD 15 0 = e.ct :=octs_four (k :=3) h
theorem EntOk.rcd {e :Ent} (h :EntOk e) :RecOk (entOcts e) where
  len :=octs_len h.rl h.ml
  oct :=fun x hm => by
    have hx :=h.x
    have c :=h.ct
    simp only [entOcts,List.mem_append,List.mem_cons,List.not_mem_nil,or_false] at hm
    rcases hm with ((rfl | hm) | (rfl | rfl | rfl | rfl)) | hm
    · exact h.u.1
    · exact h.ro _ hm
    · rw [Int.fmod_eq_emod_of_nonneg _ (by decide)]; exact ⟨by omega,by omega⟩
    · exact h.sp
    · rw [Int.fdiv_eq_ediv_of_nonneg _ (by decide)]; exact ⟨by omega,by omega⟩
    · exact ⟨by omega,by omega⟩
    · exact h.mp.oct _ hm
  mp :=fun _ => by rw [octs_map h.rl]; exact h.mp
  ct :=fun _ => by rw [octs_ct h.rl]; exact h.ct.2
theorem at_oct {r :List Int} {k :Nat} (h :∀ x ∈ r,Oct x) :Oct (r.getD k 0) :=by
  by_cases hk :k < r.length
  · rw [List.getD_eq_getElem?_getD,List.getElem?_eq_getElem hk]
    exact h _ (List.getElem_mem hk)
  · rw [List.getD_eq_getElem?_getD,List.getElem?_eq_none (by omega)]
    exact ⟨by decide,by decide⟩
theorem RecOk.ent {r :List Int} (h :RecOk r) (hl :r.getD 0 0 ≠ 229) :EntOk (entOf r) where
  u :=⟨at_oct h.oct,hl⟩
  rl :=by
    show ((r.drop 1).take 11).length = 11
    rw [List.length_take,List.length_drop,h.len]; rfl
  ro :=fun x hx => h.oct x (List.mem_of_mem_drop (List.mem_of_mem_take hx))
  x :=by
    have a :=at_oct (k :=14) h.oct
    have b :=at_oct (k :=12) h.oct
    show 0 ≤ r.getD 14 0 * 32 + Int.fmod (r.getD 12 0) 32 ∧ r.getD 14 0 * 32 + Int.fmod (r.getD 12 0) 32 < 8192
    rw [Int.fmod_eq_emod_of_nonneg _ (by decide)]
    have :=a.1; have :=a.2
    omega
  sp :=at_oct h.oct
  ct :=⟨(at_oct (k :=15) h.oct).1,h.ct hl⟩
  ml :=by
    show (r.drop 16).length = 16
    rw [List.length_drop,h.len]
  mp :=h.mp hl
theorem EntOk.name {e :Ent} {raw :List Int} (h :EntOk e) (hl :raw.length = 11) (ho :∀ x ∈ raw,Oct x) :EntOk { e with raw :=raw } :=⟨h.u,hl,ho,h.x,h.sp,h.ct,h.ml,h.mp⟩
theorem live_octs {e :Ent} (h :e.user ≠ 229) :liveB (entOcts e) = 1 :=by
  unfold liveB
  rw [show (entOcts e).getD 0 0 = e.user from rfl,if_neg h]
theorem nz_octs {e :Ent} (h :e.user ≠ 229) (hr :e.raw.length = 11) :nzB (entOcts e) = e.map.countP fun x => decide (x ≠ 0) :=by
  unfold nzB
  rw [show (entOcts e).getD 0 0 = e.user from rfl,if_neg h,octs_map hr]
theorem nz_rec {r :List Int} (h :r.getD 0 0 ≠ 229) :nzB r = (entOf r).map.countP fun x => decide (x ≠ 0) :=by
  unfold nzB
  rw [if_neg h]
  rfl
theorem live_rec {r :List Int} (h :r.getD 0 0 ≠ 229) :liveB r = 1 :=by
  unfold liveB
  rw [if_neg h]
theorem RecOk.erase {r :List Int} (h :RecOk r) :RecOk (r.set 0 229) :=by
  have z :(r.set 0 229).getD 0 0 = 229 :=by
    have :=h.len
    rw [List.getD_eq_getElem?_getD,List.getElem?_set_self (by omega)]
    rfl
  refine ⟨by rw [List.length_set,h.len],fun x hx => ?_,fun q => absurd z q,fun q => absurd z q⟩
  rcases List.mem_or_eq_of_mem_set hx with hx | rfl
  · exact h.oct x hx
  · exact ⟨by decide,by decide⟩
theorem erase_zero {r :List Int} (h :r.length = 32) :liveB (r.set 0 229) = 0 ∧ nzB (r.set 0 229) = 0 :=by
  have z :(r.set 0 229).getD 0 0 = 229 :=by
    rw [List.getD_eq_getElem?_getD,List.getElem?_set_self (by omega)]
    rfl
  unfold liveB nzB
  rw [if_pos z,if_pos z]
  exact ⟨rfl,rfl⟩
noncomputable def S8 (f :Nat → Nat) :Nat :=((List.range 8).map f).sum
theorem sum_le {f g :Nat → Nat} :∀ {l :List Nat},(∀ i ∈ l,f i ≤ g i) → (l.map f).sum ≤ (l.map g).sum
  | [],_ => Nat.le_refl _
  | i :: l,h => by
    rw [List.map_cons,List.map_cons,List.sum_cons,List.sum_cons]
    exact Nat.add_le_add (h i List.mem_cons_self) (sum_le fun x hx => h x (List.mem_cons_of_mem _ hx))
theorem sum_one {f g :Nat → Nat} {k :Nat} :∀ {l :List Nat},l.Nodup → (∀ i ∈ l,i ≠ k → f i ≤ g i) → f k ≤ g k + 1 → (l.map f).sum ≤ (l.map g).sum + 1
  | [],_,_,_ => Nat.zero_le _
  | i :: l,hn,h,hk => by
    have hn' :=List.nodup_cons.mp hn
    rw [List.map_cons,List.map_cons,List.sum_cons,List.sum_cons]
    by_cases e :i = k
    · subst e
      rw [Nat.add_right_comm]
      exact Nat.add_le_add hk (sum_le fun x hx => h x (List.mem_cons_of_mem _ hx) fun q => hn'.1 (q ▸ hx))
    · rw [Nat.add_assoc]
      exact Nat.add_le_add (h i List.mem_cons_self e) (sum_one hn'.2 (fun x hx => h x (List.mem_cons_of_mem _ hx)) hk)
theorem S8_le {f g :Nat → Nat} (h :∀ i,i < 8 → f i ≤ g i) :S8 f ≤ S8 g :=sum_le fun i hi => h i (List.mem_range.mp hi)
theorem S8_one {f g :Nat → Nat} {k :Nat} (h :∀ i,i < 8 → i ≠ k → f i ≤ g i) (hk :f k ≤ g k + 1) :S8 f ≤ S8 g + 1 :=sum_one List.nodup_range (fun i hi => h i (List.mem_range.mp hi)) hk
structure Inv (t :Nat) (D :List Int) :Prop where
  len :D.length = 1408
  rcd :∀ i,i < 8 → RecOk (recD D i)
  lv :S8 (fun i => liveB (recD D i)) ≤ t
  nz :S8 (fun i => nzB (recD D i)) ≤ t
theorem Inv.octD {t :Nat} {D :List Int} (I :Inv t D) :OctD D :=⟨I.len,fun i hi => (I.rcd i hi).oct⟩
theorem row_find {D ps :List Int} {u :Int} {r :Nat × Ent} (h :r ∈ rowsF (findF D u ps)) :r.1 < 8 ∧ r.2 = entOf (recD D r.1) ∧ (recD D r.1).getD 0 0 = u ∧ (ps.zip ((recD D r.1).drop 1 |>.take 11)).all matchOne = true :=by
  unfold rowsF at h
  obtain ⟨i,hi,e⟩ :_ :=List.mem_filterMap.mp h
  obtain ⟨x,hx,rfl⟩ :_ :=Option.map_eq_some_iff.mp e
  have hx' :=hx
  unfold findF at hx
  split at hx
  · rename_i q
    exact ⟨List.mem_range.mp hi,(Option.some.inj hx).symm,q⟩
  · cases hx
theorem find_row {D ps :List Int} {u :Int} {i :Nat} {e :Ent} (hi :i < 8) (h :findF D u ps i = some e) :(i,e) ∈ rowsF (findF D u ps) :=by
  unfold rowsF
  exact List.mem_filterMap.mpr ⟨i,List.mem_range.mpr hi,by rw [h]; rfl⟩
theorem live_row {D :List Int} {r :Nat × Ent} (h :r ∈ rowsF (liveF D)) :r.1 < 8 ∧ r.2 = entOf (recD D r.1) ∧ (recD D r.1).getD 0 0 ≠ 229 :=by
  unfold rowsF at h
  obtain ⟨i,hi,e⟩ :_ :=List.mem_filterMap.mp h
  obtain ⟨x,hx,rfl⟩ :_ :=Option.map_eq_some_iff.mp e
  unfold liveF at hx
  split at hx
  · cases hx
  · rename_i q
    exact ⟨List.mem_range.mp hi,(Option.some.inj hx).symm,q⟩
theorem row_live {D :List Int} {i :Nat} (hi :i < 8) (h :(recD D i).getD 0 0 ≠ 229) :(i,entOf (recD D i)) ∈ rowsF (liveF D) :=by
  unfold rowsF
  refine List.mem_filterMap.mpr ⟨i,List.mem_range.mpr hi,?_⟩
  unfold liveF
  rw [if_neg h]
  rfl
theorem Inv.row {t :Nat} {D ps :List Int} {u :Int} {r :Nat × Ent} (I :Inv t D) (hu :u ≠ 229) (h :r ∈ rowsF (findF D u ps)) :EntOk r.2 ∧ r.2.user = u :=by
  obtain ⟨h1,h2,h3,_⟩ :_ :=row_find h
  rw [h2]
  exact ⟨(I.rcd _ h1).ent (by rw [h3]; exact hu),h3⟩
end
end
section
section
open PySem
theorem near_ok {bs :List Bool} {i :Nat} :∀ {f l r :Nat},l ≤ 10 → r ≤ 10 → nearF bs f l r = some i → i ≤ 10 ∧ bs.getD i false = false
  | 0,_,_,_,_,h => by cases h
  | f + 1,l,r,hl,hr,h => by
    unfold nearF at h
    split at h
    · split at h
      · rename_i q
        cases h
        exact ⟨by omega,q.2⟩
      · split at h
        · rename_i q
          cases h
          exact ⟨by omega,q.2⟩
        · refine near_ok (f :=f) (by omega) ?_ h
          split <;> omega
    · cases h
theorem near_some {bs :List Bool} {j :Nat} (hj :j ≤ 10) (hf :bs.getD j false = false) :∀ {f l r :Nat},l ≤ r → r ≤ 10 → l + (10 - r) < f → (∀ i,l ≤ i → i ≤ r → bs.getD i false = true) → ∃ i,nearF bs f l r = some i
  | 0,_,_,_,_,h,_ => absurd h (Nat.not_lt_zero _)
  | f + 1,l,r,h1,h2,h3,h4 => by
    by_cases o :0 < l ∨ r < 10
    · unfold nearF
      rw [if_pos o]
      split
      · exact ⟨_,rfl⟩
      · rename_i a
        split
        · exact ⟨_,rfl⟩
        · rename_i b
          have a' :0 < l → bs.getD (l - 1) false = true :=fun z => by
            cases q :bs.getD (l - 1) false with
            | true => rfl
            | false => exact absurd ⟨z,q⟩ a
          have b' :r < 10 → bs.getD (r + 1) false = true :=fun z => by
            cases q :bs.getD (r + 1) false with
            | true => rfl
            | false => exact absurd ⟨z,q⟩ b
          refine near_some hj hf (by split <;> omega) (by split <;> omega) (by split <;> omega) fun i hi hi2 => ?_
          by_cases c :l ≤ i
          · by_cases d :i ≤ r
            · exact h4 i c d
            · have :i = r + 1 :=by split at hi2 <;> omega
              rw [this]
              exact b' (by split at hi2 <;> omega)
          · have :i = l - 1 :=by omega
            rw [this]
            exact a' (by omega)
    · exact absurd (h4 j (by omega) (by omega)) (by rw [hf]; exact Bool.false_ne_true)
theorem set_true {bs :List Bool} {k i :Nat} (h :bs.getD i false = true) :(bs.set k true).getD i false = true :=by
  rw [List.getD_eq_getElem?_getD] at h ⊢
  rw [List.getElem?_set]
  split
  · split
    · rfl
    · rename_i a b
      subst a
      rw [List.getElem?_eq_none (by omega)] at h
      cases h
  · exact h
theorem mark_keep {i :Nat} :∀ {ms :List Int} {bs :List Bool},bs.getD i false = true → (markMap bs ms).getD i false = true
  | [],_,h => h
  | b :: ms,bs,h => by
    have :=mark_keep (i :=i) (ms :=ms) (bs :=if 0 < b ∧ b < 11 then bs.set b.toNat true else bs)
    refine this ?_
    split
    · exact set_true h
    · exact h
theorem mark_in {b :Int} (h0 :0 < b) (h1 :b < 11) :∀ {ms :List Int} {bs :List Bool},bs.length = 11 → b ∈ ms → (markMap bs ms).getD b.toNat false = true
  | [],_,_,h => nomatch h
  | c :: ms,bs,hl,h => by
    by_cases e :b = c
    · subst e
      show (markMap (if 0 < b ∧ b < 11 then bs.set b.toNat true else bs) ms).getD b.toNat false = true
      refine mark_keep ?_
      rw [if_pos ⟨h0,h1⟩,List.getD_eq_getElem?_getD,List.getElem?_set_self (by omega)]
      rfl
    · show (markMap (if 0 < c ∧ c < 11 then bs.set c.toNat true else bs) ms).getD b.toNat false = true
      refine mark_in h0 h1 (by split <;> simp [hl]) ?_
      rcases List.mem_cons.mp h with h | h
      · exact absurd h e
      · exact h
theorem marks_keep {i :Nat} :∀ {rs :List (Nat × Ent)} {bs :List Bool},bs.getD i false = true → (markAll bs rs).getD i false = true
  | [],_,h => h
  | r :: rs,bs,h => marks_keep (rs :=rs) (bs :=markMap bs r.2.map) (mark_keep h)
theorem marks_in {b :Int} (h0 :0 < b) (h1 :b < 11) :∀ {rs :List (Nat × Ent)} {bs :List Bool} {r :Nat × Ent},bs.length = 11 → r ∈ rs → b ∈ r.2.map → (markAll bs rs).getD b.toNat false = true
  | [],_,_,_,h,_ => nomatch h
  | x :: rs,bs,r,hl,h,hb => by
    rcases List.mem_cons.mp h with rfl | h
    · exact marks_keep (rs :=rs) (bs :=markMap bs r.2.map) (mark_in h0 h1 hl hb)
    · exact marks_in h0 h1 (rs :=rs) (bs :=markMap bs x.2.map) (by rw [markMap_length,hl]) h hb
theorem count_set {bs :List Bool} {k :Nat} :(bs.set k true).countP id ≤ bs.countP id + 1 :=by
  by_cases h :k < bs.length
  · rw [List.countP_set h]
    simp only [id]
    split <;> (try split) <;> omega
  · rw [List.set_eq_of_length_le (by omega)]
    omega
theorem count_mark :∀ {ms :List Int} {bs :List Bool},(markMap bs ms).countP id ≤ bs.countP id + ms.countP fun x => decide (x ≠ 0)
  | [],_ => Nat.le_refl _
  | b :: ms,bs => by
    have ih :=count_mark (ms :=ms) (bs :=if 0 < b ∧ b < 11 then bs.set b.toNat true else bs)
    have e :markMap bs (b :: ms) = markMap (if 0 < b ∧ b < 11 then bs.set b.toNat true else bs) ms :=rfl
    rw [e,List.countP_cons]
    by_cases h :0 < b ∧ b < 11
    · rw [if_pos h] at ih ⊢
      have s :=count_set (bs :=bs) (k :=b.toNat)
      rw [if_pos (by simp; omega)]
      omega
    · rw [if_neg h] at ih ⊢
      omega
theorem count_marks :∀ {rs :List (Nat × Ent)} {bs :List Bool},(markAll bs rs).countP id ≤ bs.countP id + (rs.map fun r => r.2.map.countP fun x => decide (x ≠ 0)).sum
  | [],_ => Nat.le_refl _
  | r :: rs,bs => by
    have ih :=count_marks (rs :=rs) (bs :=markMap bs r.2.map)
    have c :=count_mark (ms :=r.2.map) (bs :=bs)
    have e :markAll bs (r :: rs) = markAll (markMap bs r.2.map) rs :=rfl
    rw [e,List.map_cons,List.sum_cons]
    omega
theorem rows_sum {f :Nat → Option Ent} {k :Ent → Nat} :((rowsF f).map fun r => k r.2).sum = S8 fun i => match f i with | none => 0 | some e => k e :=by
  have aux :∀ l :List Nat,((l.filterMap fun i => (f i).map fun e => (i,e)).map fun r => k r.2).sum = (l.map fun i => match f i with | none => 0 | some e => k e).sum :=by
    intros l
    induction l with
    | nil => rfl
    | cons i l ih =>
      rw [List.filterMap_cons,List.map_cons,List.sum_cons]
      cases h :f i with
      | none => simp only [Option.map_none]; rw [ih]; omega
      | some e => simp only [Option.map_some,List.map_cons,List.sum_cons]; rw [ih]
  unfold rowsF
  exact aux _
theorem live_sum {D :List Int} :((rowsF (liveF D)).map fun r => r.2.map.countP fun x => decide (x ≠ 0)).sum = S8 fun i => nzB (recD D i) :=by
  rw [rows_sum (f :=liveF D) (k :=fun e => e.map.countP fun x => decide (x ≠ 0))]
  congr 1
  funext i
  unfold liveF nzB
  by_cases h :(recD D i).getD 0 0 = 229
  · rw [if_pos h,if_pos h]
  · rw [if_neg h,if_neg h]
    rfl
theorem usedL_len {D :List Int} :(usedL D).length = 11 :=by unfold usedL; rw [markAll_length]; rfl
theorem used_free {D :List Int} (h :S8 (fun i => nzB (recD D i)) ≤ 8) :∃ j,j ≤ 10 ∧ (usedL D).getD j false = false :=by
  have c :=count_marks (rs :=rowsF (liveF D)) (bs :=(List.range 11).map fun i => decide (i < 2))
  rw [live_sum] at c
  have b :((List.range 11).map fun i => decide (i < 2)).countP id = 2 :=by decide
  rw [b] at c
  have l :=usedL_len (D :=D)
  refine Classical.byContradiction fun q => ?_
  have all :∀ x ∈ usedL D,id x = true :=fun x hx => by
    obtain ⟨j,hj,rfl⟩ :_ :=List.getElem_of_mem hx
    cases z :(usedL D)[j] with
    | true => rfl
    | false =>
      refine absurd ⟨j,by omega,?_⟩ q
      rw [List.getD_eq_getElem?_getD,List.getElem?_eq_getElem hj,z]
      rfl
  have e :=List.countP_eq_length.mpr all
  unfold usedL at e l
  omega
theorem used_two {D :List Int} {i :Nat} (h :i < 2) :(usedL D).getD i false = true :=by
  unfold usedL
  refine marks_keep ?_
  match i,h with
  | 0,_ => rfl
  | 1,_ => rfl
theorem used_in {D :List Int} {i :Nat} {b :Int} (hi :i < 8) (hl :(recD D i).getD 0 0 ≠ 229) (hb :b ∈ (recD D i).drop 16) (h0 :0 < b) (h1 :b < 11) :(usedL D).getD b.toNat false = true :=by
  unfold usedL
  exact marks_in h0 h1 (by rfl) (row_live hi hl) hb
theorem maxL_mem {l :List Int} :maxL l = 0 ∨ maxL l ∈ l :=(foldl_max l 0).1
theorem near_ex {t :Nat} {D ps :List Int} {u :Int} (hr :∀ i,i < 8 → RecOk (recD D i)) (hz :S8 (fun i => nzB (recD D i)) ≤ 8) (hu :u ≠ 229) :
    0 ≤ maxL (blocksF (findF D u ps)) ∧ maxL (blocksF (findF D u ps)) ≤ 10 ∧ ∃ k :Nat,nearF (usedL D) 30 (maxL (blocksF (findF D u ps))).toNat (maxL (blocksF (findF D u ps))).toNat = some k ∧ 2 ≤ k ∧ k < 11 :=by
  have hm :(maxL (blocksF (findF D u ps)) = 0 ∨ 2 ≤ maxL (blocksF (findF D u ps)) ∧ maxL (blocksF (findF D u ps)) < 11) ∧ (usedL D).getD (maxL (blocksF (findF D u ps))).toNat false = true :=by
    rcases maxL_mem (l :=blocksF (findF D u ps)) with h | h
    · rw [h]; exact ⟨.inl rfl,used_two (by decide)⟩
    · generalize maxL (blocksF (findF D u ps)) = b at h
      unfold blocksF at h
      obtain ⟨r,hr1,hb⟩ :_ :=List.mem_flatMap.mp h
      obtain ⟨h1,h2,h3,_⟩ :_ :=row_find hr1
      have hl :(recD D r.1).getD 0 0 ≠ 229 :=by rw [h3]; exact hu
      rw [h2] at hb
      have hb :b ∈ (recD D r.1).drop 16 :=hb
      have mo :=(hr _ h1).mp hl b hb
      rcases mo with rfl | mo
      · exact ⟨.inl rfl,used_two (by decide)⟩
      · exact ⟨.inr mo,used_in h1 hl hb (by omega) mo.2⟩
  generalize maxL (blocksF (findF D u ps)) = b at hm
  obtain ⟨h1,h2⟩ :_ :=hm
  obtain ⟨j,hj,hf⟩ :_ :=used_free hz
  obtain ⟨k,hk⟩ :_ :=near_some hj hf (f :=30) (l :=b.toNat) (r :=b.toNat) (Nat.le_refl _) (by omega) (by omega) fun i hi hi2 => by
    rw [show i = b.toNat by omega]; exact h2
  obtain ⟨k1,k2⟩ :_ :=near_ok (by omega) (by omega) hk
  refine ⟨by omega,by omega,k,hk,?_,by omega⟩
  refine Classical.byContradiction fun q => ?_
  rw [used_two (by omega)] at k2
  cases k2
end
end
section
section
open PySem
theorem Inv.mono {t t' :Nat} {D :List Int} (I :Inv t D) (h :t ≤ t') :Inv t' D :=⟨I.len,I.rcd,Nat.le_trans I.lv h,Nat.le_trans I.nz h⟩
theorem edit_fold {g :List Int → List Int} {f :Nat → Option Ent} :∀ (l :List Nat) (D :List Int),l.Nodup → (∀ i ∈ l,i < 8) → (∀ i e,f i = some e → (entOcts { e with raw :=g e.raw }).length = 32) → D.length = 1408 →
    (editAll g D (l.filterMap fun i => (f i).map fun e => (i,e))).length = 1408 ∧ ∀ i,recD (editAll g D (l.filterMap fun i => (f i).map fun e => (i,e))) i = if i ∈ l then (match f i with | none => recD D i | some e => entOcts { e with raw :=g e.raw }) else recD D i
  | [],D,_,_,_,hD => ⟨hD,fun i => by rw [if_neg (fun h => nomatch h)]; rfl⟩
  | k :: l,D,hn,h8,hg,hD => by
    have hn' :=List.nodup_cons.mp hn
    rw [List.filterMap_cons]
    cases hf :f k with
    | none =>
      obtain ⟨a,b⟩ :_ :=edit_fold l D hn'.2 (fun i hi => h8 i (List.mem_cons_of_mem _ hi)) hg hD
      refine ⟨a,fun i => ?_⟩
      simp only [Option.map_none]
      rw [b i]
      by_cases e :i = k
      · subst e
        rw [if_neg hn'.1,if_pos List.mem_cons_self,hf]
      · by_cases c :i ∈ l
        · rw [if_pos c,if_pos (List.mem_cons_of_mem _ c)]
        · rw [if_neg c,if_neg fun z => (List.mem_cons.mp z).elim e c]
    | some x =>
      have hk :=h8 k List.mem_cons_self
      have hx :=hg k x hf
      obtain ⟨a,b⟩ :_ :=edit_fold l (lay D (32 * k) (entOcts { x with raw :=g x.raw })) hn'.2 (fun i hi => h8 i (List.mem_cons_of_mem _ hi)) hg (by rw [lay_len (by omega),hD])
      simp only [Option.map_some]
      have e :∀ rs,editAll g D ((k,x) :: rs) = editAll g (lay D (32 * k) (entOcts { x with raw :=g x.raw })) rs :=fun rs => rfl
      rw [e]
      refine ⟨a,fun i => ?_⟩
      rw [b i,recD_lay hD hk hx]
      by_cases e :i = k
      · subst e
        rw [if_neg hn'.1,if_pos rfl,if_pos List.mem_cons_self,hf]
      · rw [if_neg e]
        by_cases c :i ∈ l
        · rw [if_pos c,if_pos (List.mem_cons_of_mem _ c)]
        · rw [if_neg c,if_neg fun z => (List.mem_cons.mp z).elim e c]
theorem recD_set {D :List Int} {k j :Nat} {v :Int} (hD :D.length = 1408) (hk :k < 8) :recD (D.set (32 * k) v) j = if j = k then (recD D k).set 0 v else recD D j :=by
  have lr :(recD D k).length = 32 :=by rw [recD,List.length_take,List.length_drop]; omega
  rw [set_lay hD hk,recD_lay hD hk (by rw [List.length_set,lr])]
theorem erase_fold {f :Nat → Option Ent} :∀ (l :List Nat) (D :List Int),l.Nodup → (∀ i ∈ l,i < 8) → D.length = 1408 →
    (eraseAll D (l.filterMap fun i => (f i).map fun e => (i,e))).length = 1408 ∧ ∀ i,recD (eraseAll D (l.filterMap fun i => (f i).map fun e => (i,e))) i = if i ∈ l ∧ (f i).isSome = true then (recD D i).set 0 229 else recD D i
  | [],D,_,_,hD => ⟨hD,fun i => by rw [if_neg (fun h => nomatch h.1)]; rfl⟩
  | k :: l,D,hn,h8,hD => by
    have hn' :=List.nodup_cons.mp hn
    rw [List.filterMap_cons]
    cases hf :f k with
    | none =>
      obtain ⟨a,b⟩ :_ :=erase_fold l D hn'.2 (fun i hi => h8 i (List.mem_cons_of_mem _ hi)) hD
      refine ⟨a,fun i => ?_⟩
      simp only [Option.map_none]
      rw [b i]
      by_cases e :i = k
      · subst e
        rw [if_neg fun h => hn'.1 h.1,if_neg fun h => by rw [hf] at h; cases h.2]
      · by_cases c :i ∈ l ∧ (f i).isSome = true
        · rw [if_pos c,if_pos ⟨List.mem_cons_of_mem _ c.1,c.2⟩]
        · rw [if_neg c,if_neg fun z => c ⟨(List.mem_cons.mp z.1).resolve_left e,z.2⟩]
    | some x =>
      have hk :=h8 k List.mem_cons_self
      obtain ⟨a,b⟩ :_ :=erase_fold l (D.set (32 * k) 229) hn'.2 (fun i hi => h8 i (List.mem_cons_of_mem _ hi)) (by rw [List.length_set,hD])
      simp only [Option.map_some]
      have e :∀ rs,eraseAll D ((k,x) :: rs) = eraseAll (D.set (32 * k) 229) rs :=fun rs => rfl
      rw [e]
      refine ⟨a,fun i => ?_⟩
      rw [b i,recD_set hD hk]
      by_cases e :i = k
      · subst e
        rw [if_neg fun h => hn'.1 h.1,if_pos rfl,if_pos ⟨List.mem_cons_self,by rw [hf]; rfl⟩]
      · rw [if_neg e]
        by_cases c :i ∈ l ∧ (f i).isSome = true
        · rw [if_pos c,if_pos ⟨List.mem_cons_of_mem _ c.1,c.2⟩]
        · rw [if_neg c,if_neg fun z => c ⟨(List.mem_cons.mp z.1).resolve_left e,z.2⟩]
theorem find_ent {D ps :List Int} {u :Int} {i :Nat} {e :Ent} (h :findF D u ps i = some e) :e = entOf (recD D i) ∧ (recD D i).getD 0 0 = u :=by
  unfold findF at h
  split at h
  · rename_i q
    exact ⟨(Option.some.inj h).symm,q.1⟩
  · cases h
theorem Inv.edit {t :Nat} {D ps :List Int} {u :Int} {g :List Int → List Int} (I :Inv t D) (hu :u ≠ 229) (hg :∀ raw :List Int,raw.length = 11 → (∀ x ∈ raw,Oct x) → (g raw).length = 11 ∧ ∀ x ∈ g raw,Oct x) :Inv t (editAll g D (rowsF (findF D u ps))) :=by
  have ok :∀ i e,i < 8 → findF D u ps i = some e → EntOk e :=fun i e hi h => (I.row hu (find_row hi h)).1
  have big :∀ i,8 ≤ i → ∀ e,findF D u ps i = some e → (g e.raw).length = 11 ∧ e.map.length = 16 → (entOcts { e with raw :=g e.raw }).length = 32 :=fun i _ e _ h => octs_len (e :={ e with raw :=g e.raw }) h.1 h.2
  have key :=edit_fold (g :=g) (f :=fun i => if i < 8 then findF D u ps i else none) (List.range 8) D List.nodup_range (fun i hi => List.mem_range.mp hi) (fun i e h => by
    split at h
    · rename_i hi
      have k :=ok i e hi h
      exact octs_len (e :={ e with raw :=g e.raw }) (hg _ k.rl k.ro).1 k.ml
    · cases h) I.len
  have same :((List.range 8).filterMap fun i => (if i < 8 then findF D u ps i else none).map fun e => (i,e)) = rowsF (findF D u ps) :=by
    unfold rowsF
    have aux :∀ l :List Nat,(∀ i ∈ l,i < 8) → (l.filterMap fun i => (if i < 8 then findF D u ps i else none).map fun e => (i,e)) = l.filterMap fun i => (findF D u ps i).map fun e => (i,e) :=by
      intros l
      induction l with
      | nil => intros _; rfl
      | cons i l ih =>
        intros h
        rw [List.filterMap_cons,List.filterMap_cons,if_pos (h i List.mem_cons_self),ih fun x hx => h x (List.mem_cons_of_mem _ hx)]
    exact aux _ fun i hi => List.mem_range.mp hi
  rw [same] at key
  obtain ⟨a,b⟩ :_ :=key
  have c :∀ i,i < 8 → RecOk (recD (editAll g D (rowsF (findF D u ps))) i) ∧ liveB (recD (editAll g D (rowsF (findF D u ps))) i) = liveB (recD D i) ∧ nzB (recD (editAll g D (rowsF (findF D u ps))) i) = nzB (recD D i) :=fun i hi => by
    rw [b i,if_pos (List.mem_range.mpr hi)]
    rw [if_pos hi]
    cases h :findF D u ps i with
    | none => exact ⟨I.rcd i hi,rfl,rfl⟩
    | some e =>
      have k :=ok i e hi h
      obtain ⟨e1,e2⟩ :_ :=find_ent h
      have hl :(recD D i).getD 0 0 ≠ 229 :=by rw [e2]; exact hu
      have n :=k.name (hg _ k.rl k.ro).1 (hg _ k.rl k.ro).2
      refine ⟨n.rcd,?_,?_⟩
      · rw [live_octs n.u.2,live_rec hl]
      · rw [nz_octs n.u.2 n.rl,nz_rec hl,e1]
  exact ⟨a,fun i hi => (c i hi).1,Nat.le_trans (S8_le fun i hi => Nat.le_of_eq (c i hi).2.1) I.lv,Nat.le_trans (S8_le fun i hi => Nat.le_of_eq (c i hi).2.2) I.nz⟩
theorem Inv.erase {t :Nat} {D ps :List Int} {u :Int} (I :Inv t D) :Inv t (eraseAll D (rowsF (findF D u ps))) :=by
  obtain ⟨a,b⟩ :_ :=erase_fold (f :=findF D u ps) (List.range 8) D List.nodup_range (fun i hi => List.mem_range.mp hi) I.len
  have e :rowsF (findF D u ps) = (List.range 8).filterMap fun i => (findF D u ps i).map fun e => (i,e) :=rfl
  rw [← e] at a b
  have c :∀ i,i < 8 → RecOk (recD (eraseAll D (rowsF (findF D u ps))) i) ∧ liveB (recD (eraseAll D (rowsF (findF D u ps))) i) ≤ liveB (recD D i) ∧ nzB (recD (eraseAll D (rowsF (findF D u ps))) i) ≤ nzB (recD D i) :=fun i hi => by
    rw [b i]
    split
    · have z :=erase_zero (I.rcd i hi).len
      exact ⟨(I.rcd i hi).erase,by rw [z.1]; exact Nat.zero_le _,by rw [z.2]; exact Nat.zero_le _⟩
    · exact ⟨I.rcd i hi,Nat.le_refl _,Nat.le_refl _⟩
  exact ⟨a,fun i hi => (c i hi).1,Nat.le_trans (S8_le fun i hi => (c i hi).2.1) I.lv,Nat.le_trans (S8_le fun i hi => (c i hi).2.2) I.nz⟩
theorem free_one {t :Nat} {D :List Int} (I :Inv t D) (ht :t ≤ 7) :∃ k,freeE D = some k ∧ k < 8 ∧ (recD D k).getD 0 0 = 229 :=by
  cases h :freeE D with
  | some k =>
    refine ⟨k,rfl,free_lt h,?_⟩
    unfold freeE at h
    have :=List.find?_some h
    rw [decide_eq_true_eq,getD_rec] at this
    exact this
  | none =>
    unfold freeE at h
    have all :∀ i,i < 8 → liveB (recD D i) = 1 :=fun i hi => by
      have :=List.find?_eq_none.mp h i (List.mem_range.mpr hi)
      rw [decide_eq_true_eq,getD_rec] at this
      exact live_rec this
    have l :=I.lv
    have e :=S8_le (f :=fun _ => 1) (g :=fun i => liveB (recD D i)) fun i hi => Nat.le_of_eq (all i hi).symm
    have e8 :S8 (fun _ => 1) = 8 :=rfl
    rw [e8] at e
    omega
theorem Inv.lay {t :Nat} {D :List Int} {k :Nat} {e :Ent} (I :Inv t D) (hk :k < 8) (he :EntOk e) (hm :(e.map.countP fun x => decide (x ≠ 0)) = 0) :
    (lay D (32 * k) (entOcts e)).length = 1408 ∧ (∀ i,i < 8 → RecOk (recD (Mine.lay D (32 * k) (entOcts e)) i)) ∧ S8 (fun i => liveB (recD (Mine.lay D (32 * k) (entOcts e)) i)) ≤ t + 1 ∧ S8 (fun i => nzB (recD (Mine.lay D (32 * k) (entOcts e)) i)) ≤ t :=by
  have lo :=octs_len he.rl he.ml
  have r :∀ i,recD (Mine.lay D (32 * k) (entOcts e)) i = if i = k then entOcts e else recD D i :=fun i => recD_lay I.len hk lo
  refine ⟨by rw [lay_len (by have :=I.len; omega),I.len],fun i hi => ?_,?_,?_⟩
  · rw [r i]
    split
    · exact he.rcd
    · exact I.rcd i hi
  · refine Nat.le_trans (S8_one (k :=k) (g :=fun i => liveB (recD D i)) (fun i hi ne => ?_) ?_) (Nat.succ_le_succ I.lv)
    · rw [r i,if_neg ne]; exact Nat.le_refl _
    · rw [r k,if_pos rfl,live_octs he.u.2]; omega
  · refine Nat.le_trans (S8_le (g :=fun i => nzB (recD D i)) fun i hi => ?_) I.nz
    rw [r i]
    split
    · rw [nz_octs he.u.2 he.rl,hm]; exact Nat.zero_le _
    · exact Nat.le_refl _
theorem new_ok {u x :Int} {raw :List Int} (hu :0 ≤ u ∧ u < 2) (hl :raw.length = 11) (ho :∀ x ∈ raw,Oct x) (hx :0 ≤ x ∧ x < 8192) :EntOk (newE u raw x) :=
  ⟨⟨⟨hu.1,by show u < 256; omega⟩,by show u ≠ 229; omega⟩,hl,ho,hx,⟨Int.le_refl 0,by show (0:Int) < 256; decide⟩,⟨Int.le_refl 0,by show (0:Int) ≤ 64; decide⟩,rfl,fun y hy => .inl (List.eq_of_mem_replicate hy)⟩
theorem new_zero {u x :Int} {raw :List Int} :((newE u raw x).map.countP fun x => decide (x ≠ 0)) = 0 :=rfl
end
end
section
section
open PySem
theorem first_range {f :Nat → Option Ent} {x :Int} :∀ (n s :Nat),(∀ r,(((List.range' s n).filterMap fun i => (f i).map fun e => (i,e)).find? fun r => decide (r.2.ext = x)) = some r → s ≤ r.1 ∧ r.1 < s + n ∧ f r.1 = some r.2 ∧ r.2.ext = x ∧ ∀ i,s ≤ i → i < r.1 → ∀ e,f i = some e → e.ext ≠ x) ∧
    ((((List.range' s n).filterMap fun i => (f i).map fun e => (i,e)).find? fun r => decide (r.2.ext = x)) = none → ∀ i,s ≤ i → i < s + n → ∀ e,f i = some e → e.ext ≠ x)
  | 0,s => ⟨fun r h => by simp at h,fun _ i h1 h2 => absurd h2 (by omega)⟩
  | n + 1,s => by
    obtain ⟨a,b⟩ :_ :=first_range (f :=f) (x :=x) n (s + 1)
    rw [List.range'_succ,List.filterMap_cons]
    cases hf :f s with
    | none =>
      simp only [Option.map_none]
      refine ⟨fun r h => ?_,fun h i h1 h2 e he => ?_⟩
      · obtain ⟨a1,a2,a3,a4,a5⟩ :_ :=a r h
        refine ⟨by omega,by omega,a3,a4,fun i h1 h2 e he => ?_⟩
        by_cases q :i = s
        · rw [q,hf] at he; cases he
        · exact a5 i (by omega) h2 e he
      · by_cases q :i = s
        · rw [q,hf] at he; cases he
        · exact b h i (by omega) (by omega) e he
    | some y =>
      simp only [Option.map_some,List.find?_cons]
      by_cases c :y.ext = x
      · rw [decide_eq_true c]
        refine ⟨fun r h => ?_,fun h => by cases h⟩
        cases h
        exact ⟨Nat.le_refl _,by show s < s + (n + 1); omega,hf,c,fun i h1 h2 => absurd h2 (by show ¬ i < s; omega)⟩
      · rw [decide_eq_false c]
        refine ⟨fun r h => ?_,fun h i h1 h2 e he => ?_⟩
        · obtain ⟨a1,a2,a3,a4,a5⟩ :_ :=a r h
          refine ⟨by omega,by omega,a3,a4,fun i h1 h2 e he => ?_⟩
          by_cases q :i = s
          · rw [q,hf] at he; cases he; exact c
          · exact a5 i (by omega) h2 e he
        · by_cases q :i = s
          · rw [q,hf] at he; cases he; exact c
          · exact b h i (by omega) (by omega) e he
theorem first_some {f :Nat → Option Ent} {x :Int} {num :Nat} {e :Ent} (h :firstX f x = some (num,e)) :num < 8 ∧ f num = some e ∧ e.ext = x ∧ ∀ i,i < num → ∀ e',f i = some e' → e'.ext ≠ x :=by
  unfold firstX rowsF at h
  rw [List.range_eq_range'] at h
  obtain ⟨a1,a2,a3,a4,a5⟩ :_ :=(first_range 8 0).1 _ h
  exact ⟨by have :num < 0 + 8 :=a2; omega,a3,a4,fun i hi => a5 i (Nat.zero_le _) hi⟩
theorem first_none {f :Nat → Option Ent} {x :Int} (h :firstX f x = none) :∀ i,i < 8 → ∀ e,f i = some e → e.ext ≠ x :=by
  unfold firstX rowsF at h
  rw [List.range_eq_range'] at h
  exact fun i hi => (first_range 8 0).2 h i (Nat.zero_le _) (by omega)
theorem first_of {f :Nat → Option Ent} {x :Int} {num :Nat} {e :Ent} (hn :num < 8) (hf :f num = some e) (hx :e.ext = x) (hb :∀ i,i < num → ∀ e',f i = some e' → e'.ext ≠ x) :firstX f x = some (num,e) :=by
  cases h :firstX f x with
  | none => exact absurd hx (first_none h num hn e hf)
  | some r =>
    obtain ⟨k,y⟩ :_ :=r
    obtain ⟨a1,a2,a3,a4⟩ :_ :=first_some h
    rcases Nat.lt_trichotomy k num with q | q | q
    · exact absurd a3 (hb k q y a2)
    · subst q
      rw [hf] at a2
      cases a2
      rfl
    · exact absurd hx (a4 num q e hf)
theorem ent_octs {e :Ent} (hr :e.raw.length = 11) (hm :e.map.length = 16) (hx :0 ≤ e.ext ∧ e.ext < 8192) :entOf (entOcts e) = e :=by
  have e1 :((entOcts e).drop 1).take 11 = e.raw :=by
    show ((e.raw ++ [Int.fmod e.ext 32,e.sp,Int.fdiv e.ext 32,e.ct] ++ e.map)).take 11 = _
    rw [List.append_assoc,List.take_append_of_le_length (by omega),List.take_of_length_le (by omega)]
  have f0 :(entOcts e).getD 12 0 = Int.fmod e.ext 32 :=octs_four (k :=0) hr
  have f1 :(entOcts e).getD 13 0 = e.sp :=octs_four (k :=1) hr
  have f2 :(entOcts e).getD 14 0 = Int.fdiv e.ext 32 :=octs_four (k :=2) hr
  unfold entOf
  rw [e1,f0,f1,f2,octs_ct hr,octs_map hr]
  have :Int.fdiv e.ext 32 * 32 + Int.fmod (Int.fmod e.ext 32) 32 = e.ext :=by
    rw [Int.fdiv_eq_ediv_of_nonneg _ (by decide),Int.fmod_eq_emod_of_nonneg _ (by decide),Int.fmod_eq_emod_of_nonneg _ (by decide)]
    omega
  rw [this]
  rfl
theorem count_put {m :List Int} {k :Nat} {b :Int} :(m.set k b).countP (fun x => decide (x ≠ 0)) ≤ m.countP (fun x => decide (x ≠ 0)) + 1 :=by
  by_cases h :k < m.length
  · rw [List.countP_set h]
    split <;> (try split) <;> omega
  · rw [List.set_eq_of_length_le (by omega)]
    omega
theorem record_back {D1 r oc :List Int} {num :Nat} {b j :Int} (hD :D1.length = 1408) (hn :num < 8) (hr :r.length = 32) (ol :oc.length = 32) (b0 :2 ≤ b) (b1 :b < 11) (j0 :0 ≤ j) (j1 :j < 4) :
    recordF (lay (lay D1 (128 * b.toNat + 32 * j.toNat) oc) (32 * num) r) b j = oc :=by
  have ro :=rec_o b1 j1
  have h1 :(lay D1 (128 * b.toNat + 32 * j.toNat) oc).length = 1408 :=by rw [lay_len (by rw [hD,ol]; exact ro),hD]
  obtain ⟨p,hp⟩ :_ :=Nat.exists_eq_add_of_le (rec_p j b0)
  unfold recordF
  rw [hp,← List.drop_drop,tail_lay (by rw [← hp,h1]) hn hr,List.drop_drop,lay]
  rw [hp] at ro
  clear h1 hp b0 b1 j0 j1 hn hr
  rw [List.append_assoc,List.drop_append,List.drop_of_length_le (by rw [List.length_take]; omega),List.nil_append,List.length_take,show 256 + p - min (256 + p) D1.length = 0 by omega,List.drop_zero,List.take_append_of_le_length (by omega),List.take_of_length_le (by omega)]
structure Wr (t :Nat) (D1 ps :List Int) (u x :Int) (num :Nat) (e1 :Ent) :Prop where
  len :D1.length = 1408
  rcd :∀ i,i < 8 → RecOk (recD D1 i)
  lv :S8 (fun i => liveB (recD D1 i)) ≤ t + 1
  nz :S8 (fun i => nzB (recD D1 i)) ≤ t
  n8 :num < 8
  ok :EntOk e1
  eu :e1.user = u
  ex :e1.ext = x
  mt :(ps.zip e1.raw).all matchOne = true
  l1 :(recD D1 num).getD 0 0 ≠ 229
  c1 :(e1.map.countP fun x => decide (x ≠ 0)) ≤ nzB (recD D1 num)
  fst :∀ i,i < num → ∀ e',findF D1 u ps i = some e' → e'.ext ≠ x
noncomputable abbrev wEnt (e1 :Ent) (mp :List Int) (i :Int) :Ent :={ e1 with map :=mp,ct :=max e1.ct (i % 64 + 1) }
theorem map_at {m :List Int} (h :MapOk m) (k :Nat) :m.getD k 0 = 0 ∨ 2 ≤ m.getD k 0 ∧ m.getD k 0 < 11 :=by
  by_cases hk :k < m.length
  · rw [List.getD_eq_getElem?_getD,List.getElem?_eq_getElem hk]
    exact h _ (List.getElem_mem hk)
  · rw [List.getD_eq_getElem?_getD,List.getElem?_eq_none (by omega)]
    exact .inl rfl
theorem Wr.slot {t :Nat} {D1 ps :List Int} {u x :Int} {num :Nat} {e1 :Ent} (W :Wr t D1 ps u x num e1) (ht :t ≤ 7) (hu :u ≠ 229) {q :Int} (q0 :0 ≤ q) (q1 :q < 16) :
    ∃ b mp,WSlot D1 u ps e1 q b mp ∧ 2 ≤ b ∧ b < 11 ∧ mp.length = 16 ∧ MapOk mp ∧ mp.getD q.toNat 0 = b ∧ (mp.countP fun x => decide (x ≠ 0)) ≤ (e1.map.countP fun x => decide (x ≠ 0)) + 1 :=by
  have ml :=W.ok.ml
  rcases map_at W.ok.mp q.toNat with h | h
  · obtain ⟨h1,h2,k,hk,k0,k1⟩ :_ :=near_ex (t :=t) (ps :=ps) W.rcd (Nat.le_trans W.nz (by omega)) hu
    refine ⟨(k :Nat),e1.map.set q.toNat (k :Nat),.inr ⟨h,h1,h2,⟨k,hk,rfl⟩,rfl⟩,by omega,by omega,by rw [List.length_set,ml],fun y hy => ?_,?_,count_put⟩
    · rcases List.mem_or_eq_of_mem_set hy with hy | rfl
      · exact W.ok.mp y hy
      · exact .inr ⟨by omega,by omega⟩
    · rw [List.getD_eq_getElem?_getD,List.getElem?_set_self (by omega)]
      rfl
  · exact ⟨_,_,.inl ⟨by omega,rfl,rfl⟩,h.1,h.2,ml,W.ok.mp,rfl,Nat.le_succ _⟩
theorem Wr.done {t :Nat} {D1 ps oc mp :List Int} {u x i b :Int} {num :Nat} {e1 :Ent} (W :Wr t D1 ps u x num e1) (ol :oc.length = 32) (i0 :0 ≤ i) (hx :x = i / 64) (b0 :2 ≤ b) (b1 :b < 11) (ml :mp.length = 16) (mo :MapOk mp) (mb :mp.getD ((i % 64).fdiv 4).toNat 0 = b)
    (mc :(mp.countP fun x => decide (x ≠ 0)) ≤ (e1.map.countP fun x => decide (x ≠ 0)) + 1) :
    Inv (t + 1) (lay (lay D1 (128 * b.toNat + 32 * ((i % 64).fmod 4).toNat) oc) (32 * num) (entOcts (wEnt e1 mp i))) ∧ readF (lay (lay D1 (128 * b.toNat + 32 * ((i % 64).fmod 4).toNat) oc) (32 * num) (entOcts (wEnt e1 mp i))) u ps i = some oc :=by
  rw [Int.fdiv_eq_ediv_of_nonneg _ (by decide)] at mb
  rw [Int.fmod_eq_emod_of_nonneg _ (by decide)]
  have hl :=W.len
  have n8 :=W.n8
  have hE :EntOk (wEnt e1 mp i) :=⟨W.ok.u,W.ok.rl,W.ok.ro,W.ok.x,W.ok.sp,by have :=W.ok.ct; show 0 ≤ max e1.ct (i % 64 + 1) ∧ max e1.ct (i % 64 + 1) ≤ 64; omega,ml,mo⟩
  have lo :=octs_len hE.rl hE.ml
  have h1 :(lay D1 (128 * b.toNat + 32 * (i % 64 % 4).toNat) oc).length = 1408 :=by rw [lay_len (by rw [hl,ol]; exact rec_o b1 (Int.emod_lt_of_pos _ (by decide))),hl]
  have r :∀ k,k < 8 → recD (lay (lay D1 (128 * b.toNat + 32 * (i % 64 % 4).toNat) oc) (32 * num) (entOcts (wEnt e1 mp i))) k = if k = num then entOcts (wEnt e1 mp i) else recD D1 k :=fun k hk => by
    rw [recD_lay h1 n8 lo,recD_layB (rec_p _ b0) hl (by rw [ol]; exact rec_o b1 (Int.emod_lt_of_pos _ (by decide))) hk]
  have hf :findF (lay (lay D1 (128 * b.toNat + 32 * (i % 64 % 4).toNat) oc) (32 * num) (entOcts (wEnt e1 mp i))) u ps num = some (wEnt e1 mp i) :=by
    have e2 :((entOcts (wEnt e1 mp i)).drop 1).take 11 = e1.raw :=by
      have :=congrArg Ent.raw (ent_octs hE.rl hE.ml hE.x)
      exact this
    have c :(entOcts (wEnt e1 mp i)).getD 0 0 = u ∧ ((ps.zip ((entOcts (wEnt e1 mp i)).drop 1 |>.take 11)).all matchOne) = true :=⟨W.eu,by rw [e2]; exact W.mt⟩
    unfold findF
    rw [r num n8,if_pos rfl,if_pos c,ent_octs hE.rl hE.ml hE.x]
  refine ⟨⟨by rw [lay_len (by rw [h1,lo]; clear h1 r hf; omega),h1],fun k hk => ?_,?_,?_⟩,?_⟩
  · rw [r k hk]
    split
    · exact hE.rcd
    · exact W.rcd k hk
  · refine Nat.le_trans (S8_le (g :=fun i => liveB (recD D1 i)) fun k hk => ?_) W.lv
    rw [r k hk]
    split
    · rename_i e; subst e; rw [live_octs hE.u.2,live_rec W.l1]; exact Nat.le_refl _
    · exact Nat.le_refl _
  · refine Nat.le_trans (S8_one (k :=num) (g :=fun i => nzB (recD D1 i)) (fun k hk ne => ?_) ?_) (Nat.succ_le_succ W.nz)
    · rw [r k hk,if_neg ne]; exact Nat.le_refl _
    · rw [r num n8,if_pos rfl,nz_octs hE.u.2 hE.rl]
      have :=W.c1
      have mc' :((wEnt e1 mp i).map.countP fun x => decide (x ≠ 0)) ≤ (e1.map.countP fun x => decide (x ≠ 0)) + 1 :=mc
      omega
  · have fx :=first_of (x :=i / 64) n8 hf (hx ▸ W.ex) fun k hk e' he => by
      refine hx ▸ W.fst k hk e' ?_
      have ek :=r k (by omega)
      rw [if_neg (by omega)] at ek
      unfold findF at he ⊢
      rw [ek] at he
      exact he
    unfold readF
    rw [fx]
    show readRow _ (wEnt e1 mp i) (i % 64) = _
    unfold readRow slotF
    have c1 :¬ (wEnt e1 mp i).ct ≤ i % 64 :=by show ¬ max e1.ct (i % 64 + 1) ≤ i % 64; omega
    have c2 :(wEnt e1 mp i).map.getD (i % 64 / 4).toNat 0 = b :=mb
    rw [if_neg c1,c2,if_neg (by omega),record_back hl n8 lo ol b0 b1 (by omega) (by omega)]
end
end
section
section
open PySem
structure Ordr (ord :List Int) :Prop where
  ql :ord.length = 3
  qo :∀ x ∈ ord,0 ≤ x ∧ x < 3
  qn :ord.Nodup
noncomputable abbrev exRow (ord :List Int) (tn :Bool) (r :Nat × Ent) :Nat × Ent :=(r.1,exEnt ord tn r.2)
noncomputable abbrev nm (j :Nat) :List Int :=nms.getD j []
noncomputable abbrev to (ord :List Int) (j :Nat) :Nat :=(ord.getD j 0).toNat
section
variable {ord D :List Int} {tn :Bool} {u :Int} {j :Nat}
theorem Ordr.to {k :Nat} (O :Ordr ord) (hk :k < 3) :Mine.to ord k < 3 :=by have :=ord_at O.ql O.qo hk; show (ord.getD k 0).toNat < 3; omega
theorem rows_ex (O :Ordr ord) (hD :OctD D) (hu :0 ≤ u ∧ u < 2) (hj :j < 3) :rowsF (findF (exL ord tn D 8) (flipU tn u) (nm (to ord j))) = (rowsF (findF D u (nm j))).map (exRow ord tn) :=
  rowsF_map (k :=exEnt ord tn) fun i hi => findF_ex O.ql O.qo O.qn hD hu hj hi
theorem first_ex (O :Ordr ord) (hD :OctD D) (hu :0 ≤ u ∧ u < 2) (hj :j < 3) {x :Int} :firstX (findF (exL ord tn D 8) (flipU tn u) (nm (to ord j))) x = (firstX (findF D u (nm j)) x).map (exRow ord tn) :=by
  unfold firstX
  rw [rows_ex O hD hu hj]
  generalize rowsF (findF D u (nm j)) = rs
  induction rs with
  | nil => rfl
  | cons r rs ih =>
    rw [List.map_cons,List.find?_cons,List.find?_cons,ih]
    show (match decide (r.2.ext = x) with | true => _ | false => _) = _
    cases decide (r.2.ext = x) <;> rfl
theorem blocks_ex (O :Ordr ord) (hD :OctD D) (hu :0 ≤ u ∧ u < 2) (hj :j < 3) :blocksF (findF (exL ord tn D 8) (flipU tn u) (nm (to ord j))) = blocksF (findF D u (nm j)) :=
  blocksF_map (k :=exEnt ord tn) (fun _ => rfl) fun i hi => findF_ex O.ql O.qo O.qn hD hu hj hi
theorem Inv.raw8 {t :Nat} {ps :List Int} {r :Nat × Ent} (I :Inv t D) (O :Ordr ord) (hu :u ≠ 229) (h :r ∈ rowsF (findF D u ps)) :128 ≤ (exRow ord tn r).2.raw.getD 8 0 ↔ 128 ≤ r.2.raw.getD 8 0 :=
  let k :=(I.row hu h).1
  flag_ex O.ql O.qo k.rl k.ro (by decide)
theorem flagX {t :Nat} (I :Inv t D) (O :Ordr ord) (hu :0 ≤ u ∧ u < 2) (hj :j < 3) (h :Flag D u (nm j)) :Flag (exL ord tn D 8) (flipU tn u) (nm (to ord j)) :=by
  obtain ⟨r,hr,h8⟩ :_ :=h
  refine ⟨exRow ord tn r,?_,(I.raw8 (tn :=tn) O (by omega) hr).mpr h8⟩
  rw [rows_ex O I.octD hu hj]
  exact List.mem_map_of_mem hr
theorem noflagX {t :Nat} (I :Inv t D) (O :Ordr ord) (hu :0 ≤ u ∧ u < 2) (hj :j < 3) (h :NoFlag D u (nm j)) :NoFlag (exL ord tn D 8) (flipU tn u) (nm (to ord j)) :=by
  intros r hr
  rw [rows_ex O I.octD hu hj] at hr
  obtain ⟨r',hr',rfl⟩ :_ :=List.mem_map.mp hr
  have a :=h r' hr'
  have b :=I.raw8 (tn :=tn) O (by omega) hr'
  refine Int.not_le.mp fun q => ?_
  have :=b.mp q
  omega
theorem no_or (D :List Int) (u :Int) (ps :List Int) :NoFlag D u ps ∨ Flag D u ps :=by
  by_cases h :Flag D u ps
  · exact .inr h
  · refine .inl fun r hr => Int.not_le.mp fun q => h ⟨r,hr,q⟩
theorem flip_user (hu :0 ≤ u ∧ u < 2) :0 ≤ flipU tn u ∧ flipU tn u < 2 :=by
  unfold flipU
  split <;> omega
theorem new_ex {x :Int} {raw :List Int} :exEnt ord tn (newE u raw x) = newE (flipU tn u) (exRaw ord raw) x :=rfl
theorem row_bare {t :Nat} {r :Nat × Ent} (I :Inv t D) (hu :u ≠ 229) (hj :j < 3) (h :r ∈ rowsF (findF D u (nm j))) :bareL r.2.raw = nm j :=by
  obtain ⟨h1,h2,h3,h4⟩ :_ :=row_find h
  have k :=(I.row hu h).1
  have e :r.2.raw = ((recD D r.1).drop 1).take 11 :=by rw [h2]; rfl
  rw [← e] at h4
  exact (match_iff (by rw [nms_len hj,k.rl]) (plain_nms hj)).mp h4
noncomputable abbrev Both (ord :List Int) (tn :Bool) (t :Nat) (D :List Int) (u kind :Int) (j m :Nat) (sp :Int) (oc :List Int) :Prop :=
  ∃ T D',DeedRel D u kind (nm j) (nm m) sp oc T D' ∧ DeedRel (exL ord tn D 8) (flipU tn u) kind (nm (to ord j)) (nm (to ord m)) sp oc T (exL ord tn D' 8) ∧ Inv (t + 1) D' ∧ (2 ≤ kind → kind < 6 → T = .none → readF D' u (nm j) sp = some oc)
variable {t m :Nat} {kind sp :Int} {oc :List Int}
theorem both_make (O :Ordr ord) (I :Inv t D) (ht :t ≤ 6) (hu :0 ≤ u ∧ u < 2) (hj :j < 3) (hk :kind < 2) :Both ord tn t D u kind j m sp oc :=by
  obtain ⟨k,hk1,k8,_⟩ :_ :=free_one I (by omega)
  have ne :=new_ok (raw :=nm j) (x :=0) hu (nms_len hj) (low_oct (low_nms hj)) (by decide)
  obtain ⟨a,b,c,d⟩ :_ :=I.lay k8 ne new_zero
  refine ⟨_,_,.make hk hk1,?_,⟨a,b,c,Nat.le_trans d (Nat.le_succ _)⟩,fun h => absurd hk (by omega)⟩
  have e :exL ord tn (lay D (32 * k) (entOcts (newE u (nm j) 0))) 8 = lay (exL ord tn D 8) (32 * k) (entOcts (newE (flipU tn u) (nm (to ord j)) 0)) :=by
    rw [exL_lay O.ql O.qo I.len k8 (octs_len ne.rl ne.ml),exRec_octs ne.rl ne.ml,new_ex,exRaw_nms O.ql O.qo hj]
  rw [e]
  exact .make hk (by rw [freeE_ex O.ql O.qo I.octD,hk1])
theorem both_delete (O :Ordr ord) (I :Inv t D) (hu :0 ≤ u ∧ u < 2) (hj :j < 3) (hk :kind = 6) :Both ord tn t D u kind j m sp oc :=by
  rcases no_or D u (nm j) with f | f
  · refine ⟨_,_,.delete hk f,?_,I.erase.mono (Nat.le_succ _),fun _ h => absurd hk (by omega)⟩
    rw [exL_erase O.ql O.qo _ _ I.len fun r hr => (row_find hr).1]
    have :=DeedRel.delete (xs :=nm (to ord m)) (sp :=sp) (oc :=oc) hk (noflagX (tn :=tn) I O hu hj f)
    rw [rows_ex O I.octD hu hj,List.length_map] at this
    exact this
  · exact ⟨_,_,.deleteFlag hk f,.deleteFlag hk (flagX I O hu hj f),I.mono (Nat.le_succ _),fun _ h => absurd hk (by omega)⟩
theorem both_rename (O :Ordr ord) (I :Inv t D) (hu :0 ≤ u ∧ u < 2) (hj :j < 3) (hm :m < 3) (hk :kind = 7) :Both ord tn t D u kind j m sp oc :=by
  have nl :∀ raw :List Int,raw.length = 11 → (∀ x ∈ raw,Oct x) → (nameRaw (nm m) raw).length = 11 ∧ ∀ x ∈ nameRaw (nm m) raw,Oct x :=fun raw h1 h2 => by
    rw [name_high (low_nms hm) h2]
    exact ⟨by rw [List.length_zipWith,nms_len hm,h1]; rfl,oct_zip (low_nms hm)⟩
  rcases no_or D u (nm j) with f | f
  · refine ⟨_,_,.rename hk f,?_,(I.edit (by omega) nl).mono (Nat.le_succ _),fun _ h => absurd hk (by omega)⟩
    rw [exL_edit (g' :=nameRaw (nm (to ord m))) O.ql O.qo _ _ I.len fun r hr => ?_]
    · have :=DeedRel.rename (xs :=nm (to ord m)) (sp :=sp) (oc :=oc) hk (noflagX (tn :=tn) I O hu hj f)
      rw [rows_ex O I.octD hu hj,List.length_map] at this
      exact this
    · have k :=(I.row (by omega) hr).1
      exact ⟨(row_find hr).1,(nl _ k.rl k.ro).1,k.ml,name_ex O.ql O.qo k.rl k.ro hm⟩
  · exact ⟨_,_,.renameFlag hk f,.renameFlag hk (flagX I O hu hj f),I.mono (Nat.le_succ _),fun _ h => absurd hk (by omega)⟩
theorem both_attrs (O :Ordr ord) (I :Inv t D) (hu :0 ≤ u ∧ u < 2) (hj :j < 3) (hk :8 ≤ kind) :Both ord tn t D u kind j m sp oc :=by
  have a :=attr_oct (sp :=sp) hj
  have oj :=O.to hj
  have b :=attr_oct (sp :=sp) oj
  have nl :∀ raw :List Int,raw.length = 11 → (∀ x ∈ raw,Oct x) → (flagRaw (attrRaw (nm j) sp) raw).length = 11 ∧ ∀ x ∈ flagRaw (attrRaw (nm j) sp) raw,Oct x :=fun raw h1 h2 => by
    refine ⟨by unfold flagRaw; rw [List.length_map,List.length_zip,a.2.1,h1]; rfl,?_⟩
    rw [flag_high h2 a.1]
    refine oct_zip fun x hx => ?_
    obtain ⟨y,hy,rfl⟩ :_ :=List.mem_map.mp hx
    rw [low_bits (h2 y hy)]
    omega
  refine ⟨_,_,.attrs hk,?_,?_,fun _ h => absurd hk (by omega)⟩
  · rw [a.2.2,exL_edit (g' :=flagRaw (attrRaw (nm (to ord j)) sp)) O.ql O.qo _ _ I.len fun r hr => ?_]
    · have :=DeedRel.attrs (D :=exL ord tn D 8) (u :=flipU tn u) (ps :=nm (to ord j)) (xs :=nm (to ord m)) (sp :=sp) (oc :=oc) hk
      rw [b.2.2,rows_ex O I.octD hu hj,List.length_map] at this
      exact this
    · have k :=(I.row (by omega) hr).1
      exact ⟨(row_find hr).1,(nl _ k.rl k.ro).1,k.ml,attr_ex O.ql O.qo k.rl k.ro hj (row_bare I (by omega) hj hr)⟩
  · rw [a.2.2]
    exact (I.edit (by omega) nl).mono (Nat.le_succ _)
end
end
end
section
section
open PySem
section
variable {ord D :List Int} {tn :Bool} {u :Int} {j t m :Nat} {kind sp :Int} {oc :List Int}
theorem Wr.octD {D1 ps :List Int} {x :Int} {num :Nat} {e1 :Ent} (W :Wr t D1 ps u x num e1) :OctD D1 :=⟨W.len,fun i hi => (W.rcd i hi).oct⟩
theorem write_fin {D1 :List Int} {num :Nat} {e1 :Ent} (O :Ordr ord) (I :Inv t D) (ht :t ≤ 6) (hu :0 ≤ u ∧ u < 2) (hj :j < 3) (hk :2 ≤ kind) (hk2 :kind < 6) (s0 :0 ≤ sp) (ol :oc.length = 32) (f :NoFlag D u (nm j))
    (W :Wr t D1 (nm j) u (sp / 64) num e1) (R :WRow D u (nm j) sp num e1 D1) (RX :WRow (exL ord tn D 8) (flipU tn u) (nm (to ord j)) sp num (exEnt ord tn e1) (exL ord tn D1 8)) :Both ord tn t D u kind j m sp oc :=by
  have q0 :0 ≤ (sp % 64).fdiv 4 :=by rw [Int.fdiv_eq_ediv_of_nonneg _ (by decide)]; omega
  have q1 :(sp % 64).fdiv 4 < 16 :=by rw [Int.fdiv_eq_ediv_of_nonneg _ (by decide)]; omega
  have r0 :0 ≤ (sp % 64).fmod 4 :=by rw [Int.fmod_eq_emod_of_nonneg _ (by decide)]; omega
  have r1 :(sp % 64).fmod 4 < 4 :=by rw [Int.fmod_eq_emod_of_nonneg _ (by decide)]; omega
  obtain ⟨b,mp,S,b0,b1,ml,mo,mb,mc⟩ :_ :=W.slot (by omega) (by omega) q0 q1
  obtain ⟨I',rd⟩ :_ :=W.done ol s0 rfl b0 b1 ml mo mb mc
  have ct :=W.ok.ct
  have hE :(wEnt e1 mp sp).raw.length = 11 :=W.ok.rl
  have SX :WSlot (exL ord tn D1 8) (flipU tn u) (nm (to ord j)) (exEnt ord tn e1) ((sp % 64).fdiv 4) b mp :=by
    unfold WSlot at S ⊢
    rw [blocks_ex O W.octD hu hj,usedL_ex O.ql O.qo W.octD]
    exact S
  refine ⟨_,_,.write hk hk2 f R S (by omega) b1 ⟨ct.1,by omega⟩,?_,I',fun _ _ _ => rd⟩
  have lD :=W.len
  have l1 :(lay D1 (128 * b.toNat + 32 * ((sp % 64).fmod 4).toNat) oc).length = 1408 :=by rw [lay_len (by rw [lD,ol]; exact rec_o b1 r1),lD]
  have e :=exRec_octs (ord :=ord) (tn :=tn) (e :=wEnt e1 mp sp) hE ml
  rw [exL_lay O.ql O.qo l1 W.n8 (octs_len hE ml),e,exL_layB O.ql O.qo lD (rec_p _ b0) (by rw [ol]; exact rec_o b1 r1)]
  exact DeedRel.write hk hk2 (noflagX I O hu hj f) RX SX (by omega) b1 ⟨ct.1,by show e1.ct < 256; omega⟩
theorem both_write (O :Ordr ord) (I :Inv t D) (ht :t ≤ 6) (hu :0 ≤ u ∧ u < 2) (hj :j < 3) (hk :2 ≤ kind) (hk2 :kind < 6) (s0 :0 ≤ sp) (s1 :sp < 140) (ol :oc.length = 32) :Both ord tn t D u kind j m sp oc :=by
  have hu9 :u ≠ 229 :=by omega
  have nr :∀ T :Told,T ≠ .none → (2 ≤ kind → kind < 6 → T = .none → readF D u (nm j) sp = some oc) :=fun T h _ _ e => absurd e h
  rcases no_or D u (nm j) with f | f
  · cases h :rowsF (findF D u (nm j)) with
    | nil => exact ⟨_,_,.writeNone hk hk2 h,.writeNone hk hk2 (by rw [rows_ex O I.octD hu hj,h]; rfl),I.mono (Nat.le_succ _),fun _ _ e => by cases e⟩
    | cons r0 rest =>
      have m0 :r0 ∈ rowsF (findF D u (nm j)) :=by rw [h]; exact List.mem_cons_self
      cases hf :firstX (findF D u (nm j)) (sp / 64) with
      | some row =>
        obtain ⟨num,e1⟩ :_ :=row
        obtain ⟨n8,h2,h3,h4⟩ :_ :=first_some hf
        obtain ⟨k1,k2,k3,k4⟩ :_ :=row_find (find_row n8 h2)
        have ok :=I.row hu9 (find_row n8 h2)
        have k2 :e1 = entOf (recD D num) :=k2
        have k3 :(recD D num).getD 0 0 = u :=k3
        have hl :(recD D num).getD 0 0 ≠ 229 :=by rw [k3]; exact hu9
        refine write_fin O I ht hu hj hk hk2 s0 ol f (D1 :=D) (num :=num) (e1 :=e1) ⟨I.len,I.rcd,Nat.le_succ_of_le I.lv,I.nz,n8,ok.1,ok.2,h3,?_,hl,?_,h4⟩ (.inl ⟨hf,rfl⟩) (.inl ⟨?_,rfl⟩)
        · rw [k2]; exact k4
        · rw [nz_rec hl,k2]; exact Nat.le_refl _
        · rw [first_ex O I.octD hu hj,hf]; rfl
      | none =>
        obtain ⟨num,hn,n8,nf⟩ :_ :=free_one I (by omega)
        have ok0 :=(I.row hu9 m0).1
        have sx :0 ≤ sp / 64 ∧ sp / 64 < 8192 :=by omega
        have ne :=new_ok (raw :=r0.2.raw) (x :=sp / 64) hu ok0.rl ok0.ro sx
        obtain ⟨a,b,c,d⟩ :_ :=I.lay n8 ne new_zero
        have lo :=octs_len ne.rl ne.ml
        have rr :∀ i,recD (lay D (32 * num) (entOcts (newE u r0.2.raw (sp / 64)))) i = if i = num then entOcts (newE u r0.2.raw (sp / 64)) else recD D i :=fun i => recD_lay I.len n8 lo
        have oD :OctD (lay D (32 * num) (entOcts (newE u r0.2.raw (sp / 64)))) :=⟨a,fun i hi => (b i hi).oct⟩
        have eX :exL ord tn (lay D (32 * num) (entOcts (newE u r0.2.raw (sp / 64)))) 8 = lay (exL ord tn D 8) (32 * num) (entOcts (newE (flipU tn u) (exRaw ord r0.2.raw) (sp / 64))) :=by
          rw [exL_lay O.ql O.qo I.len n8 lo,exRec_octs ne.rl ne.ml,new_ex]
        have hb :=row_bare I hu9 hj m0
        have fn :findF (lay D (32 * num) (entOcts (newE u r0.2.raw (sp / 64)))) u (nm j) num = some (newE u r0.2.raw (sp / 64)) :=by
          have e2 :((entOcts (newE u r0.2.raw (sp / 64))).drop 1).take 11 = r0.2.raw :=congrArg Ent.raw (ent_octs ne.rl ne.ml sx)
          have c :(entOcts (newE u r0.2.raw (sp / 64))).getD 0 0 = u ∧ (((nm j).zip ((entOcts (newE u r0.2.raw (sp / 64))).drop 1 |>.take 11)).all matchOne) = true :=⟨rfl,by rw [e2]; exact (match_iff (by rw [nms_len hj,ok0.rl]) (plain_nms hj)).mpr hb⟩
          unfold findF
          rw [rr num,if_pos rfl,if_pos c,ent_octs ne.rl ne.ml sx]
        have fo :∀ i,i ≠ num → findF (lay D (32 * num) (entOcts (newE u r0.2.raw (sp / 64)))) u (nm j) i = findF D u (nm j) i :=fun i hi => by
          have :=rr i
          rw [if_neg hi] at this
          unfold findF
          rw [this]
        generalize hD1 :lay D (32 * num) (entOcts (newE u r0.2.raw (sp / 64))) = D1 at a b c d rr oD eX fn fo
        cases h1 :rowsF (findF D1 u (nm j)) with
        | nil =>
          have :=find_row n8 fn
          rw [h1] at this
          cases this
        | cons r1 rest1 =>
          have m1 :r1 ∈ rowsF (findF D1 u (nm j)) :=by rw [h1]; exact List.mem_cons_self
          obtain ⟨k1,k2,k3,k4⟩ :_ :=row_find m1
          have ok1 :EntOk r1.2 :=by rw [k2]; exact (b _ k1).ent (by rw [k3]; exact hu9)
          have nl :(recD D1 num).getD 0 0 ≠ 229 :=by rw [rr num,if_pos rfl]; exact hu9
          refine write_fin O I ht hu hj hk hk2 s0 ol f (D1 :=D1) (num :=num) (e1 :=newE u r1.2.raw (sp / 64)) ⟨a,b,c,d,n8,new_ok hu ok1.rl ok1.ro sx,rfl,rfl,?_,nl,Nat.zero_le _,fun i hi e' he => ?_⟩ ?_ ?_
          · show ((nm j).zip r1.2.raw).all matchOne = true
            rw [k2]; exact k4
          · rw [fo i (by omega)] at he
            exact first_none hf i (by omega) e' he
          · exact .inr ⟨hf,r0,rest,r1,rest1,h,hn,hD1.symm,h1,rfl⟩
          · refine .inr ⟨by rw [first_ex O I.octD hu hj,hf]; rfl,exRow ord tn r0,rest.map (exRow ord tn),exRow ord tn r1,rest1.map (exRow ord tn),?_,?_,eX,?_,new_ex⟩
            · rw [rows_ex O I.octD hu hj,h,List.map_cons]
            · rw [freeE_ex O.ql O.qo I.octD,hn]
            · rw [rows_ex O oD hu hj,h1,List.map_cons]
  · exact ⟨_,_,.writeFlag hk hk2 f,.writeFlag hk hk2 (flagX I O hu hj f),I.mono (Nat.le_succ _),fun _ _ e => by cases e⟩
theorem both_law (O :Ordr ord) (I :Inv t D) (ht :t ≤ 6) (hu :0 ≤ u ∧ u < 2) (hj :j < 3) (hm :m < 3) (s0 :0 ≤ sp) (s1 :sp < 140) (ol :oc.length = 32) :Both ord tn t D u kind j m sp oc :=by
  by_cases k1 :kind < 2
  · exact both_make O I ht hu hj k1
  by_cases k2 :kind < 6
  · exact both_write O I ht hu hj (by omega) k2 s0 s1 ol
  by_cases k3 :kind = 6
  · exact both_delete O I hu hj k3
  by_cases k4 :kind = 7
  · exact both_rename O I hu hj hm k4
  exact both_attrs O I hu hj (by omega)
end
end
end
section
section
open PySem
section
variable {ord D :List Int} {tn :Bool} {u :Int} {j t m :Nat} {kind sp :Int} {oc :List Int}
theorem Inv.first {ps :List Int} {x :Int} {row :Nat × Ent} (I :Inv t D) (hu :u ≠ 229) (h :firstX (findF D u ps) x = some row) :MapOk row.2.map :=by
  obtain ⟨num,e⟩ :_ :=row
  obtain ⟨n8,h2,_,_⟩ :_ :=first_some h
  exact (I.row hu (find_row n8 h2)).1.mp
theorem read_ex (O :Ordr ord) (I :Inv t D) (hu :0 ≤ u ∧ u < 2) (hj :j < 3) (s0 :0 ≤ sp) :readF (exL ord tn D 8) (flipU tn u) (nm (to ord j)) sp = readF D u (nm j) sp :=by
  unfold readF
  rw [first_ex O I.octD hu hj]
  cases h :firstX (findF D u (nm j)) (sp / 64) with
  | none => rfl
  | some row =>
    obtain ⟨num,e⟩ :_ :=row
    have mo :=map_at (I.first (by omega) h) (sp % 64 / 4).toNat
    show readRow _ (exEnt ord tn e) _ = readRow D e _
    unfold readRow
    have e1 :(exEnt ord tn e).ct = e.ct :=rfl
    have e2 :slotF (exEnt ord tn e) (sp % 64) = slotF e (sp % 64) :=rfl
    have mo :slotF e (sp % 64) = 0 ∨ 2 ≤ slotF e (sp % 64) ∧ slotF e (sp % 64) < 11 :=mo
    rw [e1,e2]
    generalize slotF e (sp % 64) = b at mo
    by_cases c :e.ct ≤ sp % 64
    · rw [if_pos c,if_pos c]
    · rw [if_neg c,if_neg c]
      rcases mo with rfl | mo
      · rw [if_pos rfl,if_pos rfl]
      · rw [if_neg (by omega),if_neg (by omega)]
        refine congrArg some ?_
        unfold recordF
        obtain ⟨p,hp⟩ :_ :=Nat.exists_eq_add_of_le (rec_p (sp % 64 % 4) mo.1)
        rw [hp,← List.drop_drop,← List.drop_drop,(exL_rec (tn :=tn) O.ql O.qo I.len 8 (Nat.le_refl _)).2]
noncomputable abbrev disk0 :List Int :=List.replicate 1408 229
theorem rec0 {i :Nat} (hi :i < 8) :recD disk0 i = List.replicate 32 229 :=by
  unfold recD disk0
  rw [List.drop_replicate,List.take_replicate]
  congr 1
  omega
theorem inv0 :Inv 0 disk0 where
  len :=by rw [List.length_replicate]
  rcd :=fun i hi => by
    rw [rec0 hi]
    exact ⟨rfl,fun x hx => by rw [List.eq_of_mem_replicate hx]; exact ⟨by decide,by decide⟩,fun h => absurd rfl h,fun h => absurd rfl h⟩
  lv :=by
    have :S8 (fun i => liveB (recD disk0 i)) ≤ S8 fun _ => 0 :=S8_le fun i hi => by rw [rec0 hi]; exact Nat.le_refl _
    exact this
  nz :=by
    have :S8 (fun i => nzB (recD disk0 i)) ≤ S8 fun _ => 0 :=S8_le fun i hi => by rw [rec0 hi]; exact Nat.le_refl _
    exact this
theorem ex0 (O :Ordr ord) :exL ord tn disk0 8 = disk0 :=by
  have l0 :disk0.length = 1408 :=inv0.len
  have h :=exL_rec (tn :=tn) O.ql O.qo l0 8 (Nat.le_refl _)
  refine rec_ext (fun i hi => ?_) h.2
  have b :bareL ((((List.replicate 32 229 :List Int).drop 1).take 11)) ∉ nms :=by decide +kernel
  have e :exRecN ord (List.replicate 32 229) = List.replicate 32 229 :=by
    unfold exRecN
    rw [if_neg b]
  rw [h.1 i hi,if_pos hi,rec0 hi]
  unfold exRec exRecU
  rw [e,if_neg (fun z => absurd z.1 (by decide))]
noncomputable def Has (D :List Int) (u :Int) (ps :List Int) :Prop :=rowsF (findF D u ps) ≠ [] ∧ NoFlag D u ps
theorem make_has {T :Told} {xs D' :List Int} (hu :0 ≤ u ∧ u < 2) (hj :j < 3) (h :DeedRel disk0 u 0 (nm j) xs sp oc T D') :Has D' u (nm j) :=by
  cases h with
  | @make k h1 h2 =>
    have k8 :=free_lt h2
    have ne :=new_ok (raw :=nm j) (x :=0) hu (nms_len hj) (low_oct (low_nms hj)) (by decide)
    have lo :=octs_len ne.rl ne.ml
    have r :∀ i,recD (lay disk0 (32 * k) (entOcts (newE u (nm j) 0))) i = if i = k then entOcts (newE u (nm j) 0) else recD disk0 i :=fun i => recD_lay inv0.len k8 lo
    have e2 :((entOcts (newE u (nm j) 0)).drop 1).take 11 = nm j :=congrArg Ent.raw (ent_octs ne.rl ne.ml ne.x)
    constructor
    · have :findF (lay disk0 (32 * k) (entOcts (newE u (nm j) 0))) u (nm j) k = some (newE u (nm j) 0) :=by
        have c :(entOcts (newE u (nm j) 0)).getD 0 0 = u ∧ (((nm j).zip ((entOcts (newE u (nm j) 0)).drop 1 |>.take 11)).all matchOne) = true :=⟨rfl,by rw [e2]; exact (match_iff rfl (plain_nms hj)).mpr (bare_low (low_nms hj))⟩
        unfold findF
        rw [r k,if_pos rfl,if_pos c,ent_octs ne.rl ne.ml ne.x]
      have q :=find_row k8 this
      intros z
      rw [z] at q
      cases q
    · intros row hr
      obtain ⟨i8,h3,h4,_⟩ :_ :=row_find hr
      have ri :=r row.1
      by_cases e :row.1 = k
      · rw [if_pos e] at ri
        rw [h3,ri,ent_octs ne.rl ne.ml ne.x]
        exact (low_at (low_nms hj)).2
      · rw [if_neg e,rec0 i8] at ri
        rw [ri] at h4
        have :(229 :Int) = u :=h4
        omega
  | write h1 => exact absurd h1 (by decide)
  | writeFlag h1 => exact absurd h1 (by decide)
  | writeNone h1 => exact absurd h1 (by decide)
  | delete h1 => exact absurd h1 (by decide)
  | deleteFlag h1 => exact absurd h1 (by decide)
  | rename h1 => exact absurd h1 (by decide)
  | renameFlag h1 => exact absurd h1 (by decide)
  | attrs h1 => exact absurd h1 (by decide)
theorem has_told {T :Told} {ps xs D' :List Int} (H :Has D u ps) (h :DeedRel D u 2 ps xs sp oc T D') :T = .none :=by
  obtain ⟨H1,H2⟩ :_ :=H
  cases h with
  | make h1 => exact absurd h1 (by decide)
  | write => rfl
  | writeFlag _ _ f =>
    obtain ⟨r,hr,h8⟩ :_ :=f
    have :=H2 r hr
    omega
  | writeNone _ _ h => exact absurd h H1
  | delete h1 => exact absurd h1 (by decide)
  | deleteFlag h1 => exact absurd h1 (by decide)
  | rename h1 => exact absurd h1 (by decide)
  | renameFlag h1 => exact absurd h1 (by decide)
  | attrs h1 => exact absurd h1 (by decide)
structure St (i :Nat) (D :List Int) (u0 :Int) (j0 :Nat) :Prop where
  inv :Inv i D
  has :i = 1 → Has D u0 (nm j0)
  z :i = 0 → D = disk0
theorem turn_law {i :Nat} {u0 :Int} {j0 :Nat} (O :Ordr ord) (S :St i D u0 j0) (hi :i ≤ 6) (hu :0 ≤ u ∧ u < 2) (hj :j < 3) (hm :m < 3) (s0 :0 ≤ sp) (s1 :sp < 140) (ol :oc.length = 32) (h2 :i < 2 → kind = 2 * i) (h1 :i = 1 → u = u0 ∧ j = j0) :
    ∃ T D',DeedRel D u kind (nm j) (nm m) sp oc T D' ∧ DeedRel (exL ord tn D 8) (flipU tn u) kind (nm (to ord j)) (nm (to ord m)) sp oc T (exL ord tn D' 8) ∧ Inv (i + 1) D' ∧ (i + 1 = 1 → Has D' u (nm j)) ∧
      (2 ≤ kind → kind < 6 → T = .none → readF D' u (nm j) sp = some oc) ∧ (i = 1 → T = .none) ∧ readF (exL ord tn D' 8) (flipU tn u) (nm (to ord j)) sp = readF D' u (nm j) sp :=by
  obtain ⟨T,D',R1,R2,I',w⟩ :_ :=both_law (ord :=ord) (tn :=tn) (kind :=kind) (oc :=oc) O S.inv hi hu hj hm s0 s1 ol
  refine ⟨T,D',R1,R2,I',fun e => ?_,w,fun e => ?_,read_ex O I' hu hj s0⟩
  · have i0 :i = 0 :=by omega
    have k0 :=h2 (by omega)
    subst i0
    have k0 :kind = 0 :=k0
    subst k0
    rw [S.z rfl] at R1
    exact make_has hu hj R1
  · have k2 :=h2 (by omega)
    obtain ⟨rfl,rfl⟩ :_ :=h1 e
    have H :=S.has e
    subst e
    have k2 :kind = 2 :=k2
    subst k2
    exact has_told H R1
theorem ways_ordr {k :Nat} (h :k < 6) :Ordr (([[1,2,0],[2,0,1],[1,0,2],[0,2,1],[2,1,0],[0,1,2]] :List (List Int)).getD k []) :=by
  match k,h with
  | 0,_ => exact ⟨by decide,by decide,by decide⟩
  | 1,_ => exact ⟨by decide,by decide,by decide⟩
  | 2,_ => exact ⟨by decide,by decide,by decide⟩
  | 3,_ => exact ⟨by decide,by decide,by decide⟩
  | 4,_ => exact ⟨by decide,by decide,by decide⟩
  | 5,_ => exact ⟨by decide,by decide,by decide⟩
end
end
end
section
section
theorem kw120 :True :=by
  (k_with "msetItem ref int" => (k_extra "r8"))
  (k_with "mRangeRest" => (refine Wait.h ?_))
  (k_with "mexec For Tuple Call" => (k_extra "r6"))
  trivial
theorem set_firstV {prog :Program} {w :World} {A :Around} {E :Value → Shared → Prop} {s :Shared} {h₀ :Heap} {L D :Addr} {m :Str → Option Value} {news :List (Addr × Obj)} {vs :List Value} {n :Nat} {k :Int} {v :Value} {t :Tok} {Q :Unit → Shared → Prop}
    (F :Fr h₀ L s.heap m) (N :News h₀ L s.heap news) (hm :(D,listOf vs.toArray n) ∈ news) (h0 :0 ≤ k) (h1 :k < vs.length) (hfit :k < 2 ^ 63)
    (h :∀ h',Fr h₀ L h' m → News h₀ L h' ((D,listOf (vs.set k.toNat v).toArray n) :: dropN D news) → Q () { s with heap :=h' }) :
    wpAny (model prog w) A (setItem (.ref D) (.int k t) v) Q E s :=by
  have N' :=News.first N hm
  have z :=N' (D,listOf vs.toArray n) List.mem_cons_self
  refine ki_setAt z.1 h0 hfit (by rw [List.size_toArray]; exact h1) (h _ (F.change (Heap.SameBut.update ..) z.2.1 z.2.2) (ki_turn (pre :=[]) _ N' (fun _ h => nomatch h) dropN_ne ?_ ?_))
  · show vs.toArray.setIfInBounds k.toNat v = (vs.set k.toNat v).toArray
    apply Array.toList_inj.mp
    simp
  · simp
theorem kw121 :True :=by
  (k_with "msetItem ref int" => (refine Wait.h ?_))
  trivial
theorem feed_ne {c :Addr} {v :Value} {ws :List Value} {cells :List Int} {n m :Nat} (h :IntsAre ws cells) :listOf ws.toArray m ≠ listOf [Value.ref c,v].toArray n :=fun e => by
  have e' :Data.seq ws.toArray m = Data.seq [Value.ref c,v].toArray n :=congrArg Obj.data e
  injection e' with e1 _
  have e2 :ws = [Value.ref c,v] :=by simpa using congrArg Array.toList e1
  subst e2
  cases h
theorem fmod_in {x b :Int} (h :0 < b) :0 ≤ x.fmod b ∧ x.fmod b < b :=by
  rw [Int.fmod_eq_emod_of_nonneg _ (Int.le_of_lt h)]
  exact ⟨Int.emod_nonneg _ (by omega),Int.emod_lt_of_pos _ h⟩
section
variable (w dp un fr gd s mg mb G news)
noncomputable abbrev law_next_ok_Q (f c nf nc k :Nat) (tk tm :Tok) (ws :List Value) (cells :List Int) (many :Int) :Prop :=∀ (gh :GH w mg mb G) (st :Stay G s.heap) (hn :HN G s.heap news) (lv :Lv dp un 1) (q1 :(f,listOf [Value.ref c,.int (k :Nat) tk].toArray nf) ∈ news) (q2 :(c,listOf ws.toArray nc) ∈ news) (hI :IntsAre ws cells) (hl :cells.length ≤ 60) (hk :k < 1000) (h0 :0 < many) (h1 :many < 1000),wpAny (model rw_tg0048_01.row.prog w) (AR dp un fr gd) (call (.ref 342) [.ref f,.int many tm]) (MutG s news f fun r o tl => (∃ v t,r = .int v t ∧ 0 ≤ v ∧ v < many) ∧ tl = [] ∧ ∃ t,o = listOf [Value.ref c,.int ((k + 1 :Nat) :Int) t].toArray nf) (fun _ _ => False) s
end
theorem law_next_ok_L :∀ w dp un fr gd s mg mb G news f c nf nc k tk tm ws cells many,law_next_ok_Q w dp un fr gd s mg mb G news f c nf nc k tk tm ws cells many :=by
  intro w dp un fr gd s mg mb G news f c nf nc k tk tm ws cells many
  delta law_next_ok_Q
  intro gh st hn lv q1 q2 hI hl hk h0 h1
  have hlw :=hI.length
  cell_enter
  rename News _ _ _ _ => N0
  have q2' :=in_drop N0 q2 q1 (feed_ne hI)
  k_steps
  refine ⟨?_⟩
  refine set_firstV (by k_asm) (by k_asm) q1 (by decide) (by simp) (by decide) ?_
  intro h9 F9 N9
  have N9 :News _ _ h9 ((f,listOf [Value.ref c,.int ((k + 1 :Nat) :Int) _].toArray nf) :: dropN f news) :=N9
  have qR :∀ q ∈ news,q.1 ≠ f → q ∈ dropN f news :=fun q hq h => mem_dropN.mpr ⟨hq,h⟩
  generalize dropN f news = R at N9 q2' qR
  k_steps
  all_goals exact mutG [] (by k_asm) (by k_asm) (by assumption) (by assumption) (fun q hq h => List.mem_cons_of_mem _ (qR q hq h)) List.mem_cons_self (fun _ h => nomatch h) (fun _ h => nomatch h) ⟨⟨_,_,rfl,(fmod_in h0).1,(fmod_in h0).2⟩,rfl,_,rfl⟩
theorem law_next_ok {f c nf nc k :Nat} {tk tm :Tok} {ws :List Value} {cells :List Int} {many :Int} :law_next_ok_Q w dp un fr gd s mg mb G news f c nf nc k tk tm ws cells many :=law_next_ok_L w dp un fr gd s mg mb G news f c nf nc k tk tm ws cells many
end
theorem kw122 :True :=by
  (k_with "mRangeRest" => (refine toStop ?_))
  (k_with "mexec For Tuple Call" => (refine toStop ?_))
  (k_with "msetItem ref int" => (refine toStop ?_))
  trivial
end
section
section
theorem kw123 :True :=by
  (k_with "msetItem ref int" => (k_extra "r8"))
  (k_with "mRangeRest" => (refine Wait.h ?_))
  (k_with "mexec For Tuple Call" => (k_extra "r6"))
  trivial
theorem sub5 {a b c d e :Addr × Obj} {R :List (Addr × Obj)} :∀ p ∈ a :: c :: d :: e :: R,p ∈ a :: b :: c :: d :: e :: R :=fun p hp => by
  rcases List.mem_cons.mp hp with h | h
  · rw [h]; exact List.mem_cons_self
  · exact List.mem_cons_of_mem _ (List.mem_cons_of_mem _ h)
section
variable (w dp un fr gd s mg mb G news)
noncomputable abbrev Disk_ok_Q (g :Heap) (L :Addr) (m :Str → Option Value) (t1 t2 t3 t4 :Tok) (Q E :Value → Shared → Prop) :Prop :=∀ (gh :GH w mg mb G) (sg :Stay G g) (X :(Mine.hd.heap_39 w.params).In g) (F :Fr g L s.heap m) (N :News g L s.heap news) (lv :Lv dp un 3) (k :∀ (a :DA) (vs :List Value) h' tk,Fr g L h' m → News g L h' ((a.l,listOf vs.toArray a.n) :: (a.gl,listOf [].toArray a.gn) :: (a.d,instObj 53 a.dd) :: (a.dd,dictOf (diskD w.params a) 7) :: news) → (∀ p ∈ news,p.1 < a.dd) → a.dd < a.d → a.d < a.gl → a.gl < a.l → IntsAre vs (List.replicate 1408 229) → Q (.ref a.d) { s with heap :=h',toks :=tk }),wpAny (model rw_tg0048_01.row.prog w) (AR dp un fr gd) (call (.ref 53) [.int 11 t1,.int 128 t2,.int 32 t3,.int 8 t4]) Q E s
end
theorem Disk_ok_L :∀ w dp un fr gd s mg mb G news g L m t1 t2 t3 t4 Q E,Disk_ok_Q w dp un fr gd s mg mb G news g L m t1 t2 t3 t4 Q E :=by
  intro w dp un fr gd s mg mb G news g L m t1 t2 t3 t4 Q E
  delta Disk_ok_Q
  intro gh sg X F N lv k
  k_dflt (refine call_cls F X N (by k_is) (by k_is) (by k_is) ?_)
  intro x dx ho Fo No lo1 lo2
  k_lt2 lo2
  k_dflt (refine' enterF gh (G :=G) (news :=(x,instObj 53 dx) :: (dx,dictOf [] 0) :: news) ?ks (HN.of No sg) ?k8 ?k6 ?k7 ?k9 ?kB ?_ ?c2 ?c3 ?c4 ?c5; (case k6 => k_is); (case k7 => k_is); (case ks => exact fun b o e => Fo.keep _ _ (sg _ _ e)); (case k8 => (rw [depth_under_make]; have :=lv.1; show dp + 1 < 1000; omega)); (case k9 => exact BindsTo.of_eq rfl); (case c5 => decide); (case kB => exact locs rfl); (case c2 => exact rfl); (case c3 => exact rfl); (case c4 => exact rfl); k_whole; intro g' L' h' tk' loose' mean' F' N' X' T' sg' kp' bk' l1; (with_unfolding_all have F'3 :Fr _ _ _ (frm [(_,_),(_,_),(_,_),(_,_),(_,_)]) :=F'); (clear F'); (try dsimp only [frm] at F'3); (try dsimp only); (try k_fold))
  k_steps
  obtain ⟨F3,N3⟩ :=leave_frame Fo No (by k_asm) (by k_asm) kp'
  refine ⟨rfl,?_⟩
  exact k ⟨x,dx,_,_,_,_,_,_,_,_,_,_,_,_,_,_,_⟩ _ _ _ F3 (News.sub N3 sub5) lo1 lo2 (by dsimp only; omega) (by dsimp only; omega) (ints_rep 229 _ 1408)
theorem Disk_ok {g :Heap} {L :Addr} {m :Str → Option Value} {t1 t2 t3 t4 :Tok} {Q E :Value → Shared → Prop}
    (gh :GH w mg mb G) (sg :Stay G g) (X :(Mine.hd.heap_39 w.params).In g) (F :Fr g L s.heap m) (N :News g L s.heap news) (lv :Lv dp un 3)
    (k :∀ (a :DA) (vs :List Value) h' tk,Fr g L h' m → News g L h' ((a.l,listOf vs.toArray a.n) :: (a.gl,listOf [].toArray a.gn) :: (a.d,instObj 53 a.dd) :: (a.dd,dictOf (diskD w.params a) 7) :: news) → (∀ p ∈ news,p.1 < a.dd) → a.dd < a.d → a.d < a.gl → a.gl < a.l → IntsAre vs (List.replicate 1408 229) → Q (.ref a.d) { s with heap :=h',toks :=tk }) :
    wpAny (model rw_tg0048_01.row.prog w) (AR dp un fr gd) (call (.ref 53) [.int 11 t1,.int 128 t2,.int 32 t3,.int 8 t4]) Q E s :=Disk_ok_L w dp un fr gd s mg mb G news g L m t1 t2 t3 t4 Q E gh sg X F N lv k
end
theorem kw124 :True :=by
  (k_with "mRangeRest" => (refine toStop ?_))
  (k_with "mexec For Tuple Call" => (refine toStop ?_))
  (k_with "msetItem ref int" => (refine toStop ?_))
  trivial
end
section
section
noncomputable def dropL (ch :List Addr) (l :List (Addr × Obj)) :List (Addr × Obj) :=l.filter fun p => decide (p.1 ∉ ch)
theorem mem_dropL {ch :List Addr} {l :List (Addr × Obj)} {p :Addr × Obj} :p ∈ dropL ch l ↔ p ∈ l ∧ p.1 ∉ ch :=by
  unfold dropL
  rw [List.mem_filter,decide_eq_true_eq]
theorem useC {M :Model} {A :Around} {E :Value → Shared → Prop} {s :Shared} {g :Heap} {L :Addr} {m :Str → Option Value} {news :List (Addr × Obj)} {t :Sem Value} {ch :List Addr} {env :Env} {P :Value → Heap → Prop} {Q :Value → Shared → Prop}
    (spec :wpAny M A t (ChG s [env] ch P) (fun _ _ => False) s) (hf :env.frame = some L) (F :Fr g L s.heap m) (N :News g L s.heap news) (hch :∀ b ∈ ch,g.get? b = none ∧ b ≠ L)
    (k :∀ r h' tk,P r h' → Fr g L h' m → News g L h' (dropL ch news) → Q r { s with heap :=h',toks :=tk }) :wpAny M A t Q E s :=by
  refine wpAny_mono spec (fun r s' hr => ?_) fun _ _ x => x.elim
  obtain ⟨h',tk,rfl,c1,c2,hP⟩ :_ :=hr
  have eL :frs [env] = [L] :=by simp [frs,hf]
  rw [eL] at c1 c2
  obtain ⟨oL,es,ep,hL,r1⟩ :_ :=F.ns
  obtain ⟨sl,hL'⟩ :_ :=c2 L oL hL List.mem_cons_self fun q => (hch L q).2 rfl
  have gL :g.get? L = none :=by
    cases z :g.get? L with
    | none => rfl
    | some o => exact absurd (Nat.lt_of_lt_of_le (Heap.lt_size z) F.above) (Nat.lt_irrefl _)
  have F' :Fr g L h' m :=⟨⟨_,es,ep,hL',r1⟩,fun b o e => c1 b o (F.keep b o e) (fun q => by rw [(hch b q).1] at e; cases e) (fun q => by rw [List.mem_singleton.mp q,gL] at e; cases e),F.above⟩
  refine k r h' tk hP F' fun p hp => ?_
  obtain ⟨hp,np⟩ :_ :=mem_dropL.mp hp
  have z :=N p hp
  exact ⟨c1 _ _ z.1 np (fun q => z.2.1 (List.mem_singleton.mp q)),z.2⟩
theorem RetG.chg {s s' :Shared} {news :List (Addr × Obj)} {fl :List Env} {P :Value → List (Addr × Obj) → Prop} {P' :Value → Heap → Prop} {r :Value} (h :RetG s news P r s')
    (k :∀ r tl h',P r tl → (∀ p ∈ tl,h'.get? p.1 = some p.2) → P' r h') :ChG s fl [] P' r s' :=by
  obtain ⟨h',tk,tl,rfl,st,ht,hP⟩ :_ :=h
  exact ⟨h',tk,rfl,fun b o e _ _ => st _ _ e,fun b o e _ _ => ⟨o.slots,st _ _ e⟩,k _ _ _ hP fun p hp => (ht p hp).1⟩
section
variable {w :World} {dp un :Nat} {fr :Option (List Env)} {gd :Option (List Code)} {s :Shared} {mg mb :Str → Option Value} {G :Heap} {news :List (Addr × Obj)}
theorem next_U {g :Heap} {L :Addr} {m :Str → Option Value} {gL :Obj → List (Addr × Obj)} {f c nf nc :Nat} {k many :Int} {tk tm :Tok} {ws :List Value} {cells :List Int} {Q E :Value → Shared → Prop} (gh :GH w mg mb G) (st :Stay G s.heap) (hn :HN G s.heap news) (lv :Lv dp un 1)
    (F :Fr g L s.heap m) (N :News g L s.heap news) (U :UpdF f (listOf [Value.ref c,.int k tk].toArray nf) news gL) (q2 :(c,listOf ws.toArray nc) ∈ news) (hI :IntsAre ws cells) (hl :cells.length ≤ 60) (k0 :0 ≤ k) (k1 :k < 1000) (h0 :0 < many) (h1 :many < 1000)
    (kk :∀ v t t' h' tk',0 ≤ v → v < many → Fr g L h' m → News g L h' (gL (listOf [Value.ref c,.int (k + 1) t'].toArray nf)) → Q (.int v t) { s with heap :=h',toks :=tk' }) :
    wpAny (model PG w) (AR dp un fr gd) (call (.ref 342) [.ref f,.int many tm]) Q E s :=by
  obtain ⟨kn,rfl⟩ :∃ kn :Nat,k = (kn :Int) :=⟨k.toNat,by omega⟩
  obtain ⟨pre,post,rfl,hg,n1,n2⟩ :_ :=U.split
  have mem :(f,listOf [Value.ref c,.int (kn :Int) tk].toArray nf) ∈ pre ++ (f,listOf [Value.ref c,.int (kn :Int) tk].toArray nf) :: post :=List.mem_append_right _ List.mem_cons_self
  refine useM (law_next_ok gh st hn lv mem q2 hI hl (by omega) h0 h1) F N mem ?_
  rintro r tl o h' tk' ⟨⟨v,t,rfl,v0,v1⟩,rfl,t',rfl⟩ F' N' _
  refine kk v t t' h' tk' v0 v1 F' ?_
  rw [hg]
  have e :((kn + 1 :Nat) :Int) = (kn :Int) + 1 :=by omega
  rw [e] at N'
  intros p hp
  rcases List.mem_append.mp hp with hp | hp
  · exact N' p (List.mem_cons_of_mem _ (mem_dropN.mpr ⟨List.mem_append_left _ hp,n1 p hp⟩))
  · rcases List.mem_cons.mp hp with rfl | hp
    · exact N' _ List.mem_cons_self
    · exact N' p (List.mem_cons_of_mem _ (mem_dropN.mpr ⟨List.mem_append_right _ (List.mem_cons_of_mem _ hp),n2 p hp⟩))
end
end
end
section
section
noncomputable def IsCode (qual :Str) (o :Obj) :Prop :=∃ vs t,o.data = .fields vs ∧ vs[1]? = some (.str qual t)
noncomputable def TabCov (qual :Str) (ps :Array Value) (g :Heap) (R :List (Addr × Obj)) :Prop :=
  TriplesOk ps.toList ∧ ∀ pos cv,codeAmong pos ps.toList = some cv → ∃ c' oc,cv = .ref c' ∧ IsCode qual oc ∧ ((c',oc) ∈ R ∨ g.get? c' = some oc)
theorem TabCov.mono {qual :Str} {ps :Array Value} {g :Heap} {R R' :List (Addr × Obj)} (C :TabCov qual ps g R) (hR :∀ p ∈ R,p ∈ R') :TabCov qual ps g R' :=
  ⟨C.1,fun pos cv e => let ⟨c',oc,e1,e2,e3⟩ :=C.2 pos cv e; ⟨c',oc,e1,e2,e3.imp (hR _) id⟩⟩
theorem TabCov.ok {qual :Str} {ps :Array Value} {g h :Heap} {L :Addr} {m :Str → Option Value} {R news :List (Addr × Obj)} (C :TabCov qual ps g R) (F :Fr g L h m) (N :News g L h news) (hR :∀ p ∈ R,p ∈ news) :TabOk qual ps h :=
  ⟨C.1,fun pos cv e => by
    obtain ⟨c',oc,rfl,⟨vs,t,hd,hv⟩,e3⟩ :_ :=C.2 pos cv e
    refine ⟨c',rfl,c',oc,vs,t,rfl,?_,hd,hv⟩
    rcases e3 with e3 | e3
    · exact (N _ (hR _ e3)).1
    · exact F.keep _ _ e3⟩
theorem among_mem {pos :Pos} :∀ (l :List Value),TriplesOk l → ∀ cv,codeAmong pos l = some cv → cv ∈ l
  | [],_,_,e => by simp [codeAmong] at e
  | .int a u :: .int b v :: d :: rest,h,cv,e => by
    simp only [codeAmong] at e
    split at e
    · rw [← Option.some.inj e]; simp
    · exact List.mem_cons_of_mem _ (List.mem_cons_of_mem _ (List.mem_cons_of_mem _ (among_mem rest h cv e)))
open Classical in
noncomputable def tail (qual :Str) (g h :Heap) (l :List Value) :List (Addr × Obj) :=l.filterMap fun v => match v with
  | .ref c => match g.get? c,h.get? c with
    | none,some o => if IsCode qual o then some (c,o) else none
    | _,_ => none
  | _ => none
theorem tail_mem {qual :Str} {g h :Heap} {l :List Value} {p :Addr × Obj} (hp :p ∈ tail qual g h l) :g.get? p.1 = none ∧ h.get? p.1 = some p.2 ∧ IsCode qual p.2 :=by
  obtain ⟨v,_,e⟩ :_ :=List.mem_filterMap.mp hp
  cases v with
  | ref c =>
    dsimp only at e
    cases hg :g.get? c with
    | some o => rw [hg] at e; cases e
    | none =>
      cases hh :h.get? c with
      | none => rw [hg,hh] at e; cases e
      | some o =>
        rw [hg,hh] at e
        dsimp only at e
        split at e
        · rename_i q
          cases e
          exact ⟨hg,hh,q⟩
        · cases e
  | _ => cases e
theorem TabOk.cov {qual :Str} {ps :Array Value} {g h :Heap} {L :Addr} {m :Str → Option Value} (T :TabOk qual ps h) (F :Fr g L h m) :∃ R,News g L h R ∧ (∀ p ∈ R,IsCode qual p.2) ∧ TabCov qual ps g R :=by
  refine ⟨tail qual g h ps.toList,fun p hp => ?_,fun p hp => (tail_mem hp).2.2,T.tri,fun pos cv e => ?_⟩
  · obtain ⟨a1,a2,vs,t,hd,_⟩ :_ :=tail_mem hp
    refine ⟨a2,fun q => ?_,a1⟩
    obtain ⟨o,es,ep,hL,hdL,_⟩ :_ :=F.ns
    rw [q,hL] at a2
    cases a2
    rw [hd] at hdL
    cases hdL
  · obtain ⟨c',rfl,c₂,oc,vs,t,e2,hoc,hd,hv⟩ :_ :=T.codes pos cv e
    cases e2
    refine ⟨c',oc,rfl,⟨vs,t,hd,hv⟩,?_⟩
    cases hg :g.get? c' with
    | some o =>
      have hoc' :h.get? c' = some oc :=hoc
      have :=F.keep _ _ hg
      rw [hoc'] at this
      exact .inr this.symm
    | none =>
      refine .inl (List.mem_filterMap.mpr ⟨_,among_mem _ T.tri _ e,?_⟩)
      have hoc' :h.get? c' = some oc :=hoc
      dsimp only
      rw [hg,hoc']
      dsimp only
      rw [if_pos ⟨vs,t,hd,hv⟩]
theorem IsCode.ne {qual :Str} {g h :Heap} {L x :Addr} {o :Obj} {news R :List (Addr × Obj)} (N :News g L h news) (hR :∀ p ∈ R,p ∈ news) (hC :∀ p ∈ R,IsCode qual p.2) (hx :(x,o) ∈ news) (ho :∀ vs,o.data ≠ .fields vs) :∀ p ∈ R,p.1 ≠ x :=fun p hp q => by
  obtain ⟨vs,t,hd,_⟩ :_ :=hC p hp
  have e1 :=(N _ (hR _ hp)).1
  have e2 :=(N _ hx).1
  rw [q] at e1
  have e2' :h.get? x = some o :=e2
  rw [e2'] at e1
  cases e1
  exact ho _ hd
end
end
section
section
noncomputable abbrev lawQ :Str :=Str.ofString "law.<locals>.<lambda>"
structure LK where
  a :DA
  b :DA
  L :Nat
  f :Nat
  c :Nat
  lo :Nat
  nf :Nat
  nc :Nat
  no :Nat
  cs :List Value
  os :List Value
deriving Inhabited
noncomputable def fixL (P :Params) (K :LK) :List (Addr × Obj) :=
  [(K.a.d,instObj 53 K.a.dd),(K.a.dd,dictOf (diskD P K.a) 7),(K.a.gl,listOf [].toArray K.a.gn),(K.b.d,instObj 53 K.b.dd),(K.b.dd,dictOf (diskD P K.b) 7),(K.b.gl,listOf [].toArray K.b.gn),(K.lo,listOf K.os.toArray K.no),(K.c,listOf K.cs.toArray K.nc)]
noncomputable def mutP (K :LK) :List Nat :=[358,370,K.a.l,K.b.l,K.f,K.L + 1,K.L + 2,K.L + 3,K.L + 4,K.L + 5,K.L + 6,K.L + 7]
noncomputable def lawCells (L :Nat) :List (Str × Nat) :=[(Str.ofString "octet",L + 1),(Str.ofString "disk",L + 2),(Str.ofString "its_user",L + 3),(Str.ofString "mate",L + 4),(Str.ofString "raws",L + 5),(Str.ofString "spot",L + 6),(Str.ofString "user",L + 7)]
structure LK.Ok (K :LK) :Prop where
  fx :∀ (P :Params),∀ p ∈ fixL P K,p.1 ∉ mutP K
  af :@Ne Nat K.a.l K.f
  bf :@Ne Nat K.b.l K.f
  ab :@Ne Nat K.a.l K.b.l
  f8 :@Ne Nat K.f 358
  f0 :@Ne Nat K.f 370
  a8 :@Ne Nat K.a.l 358
  a0 :@Ne Nat K.a.l 370
  b8 :@Ne Nat K.b.l 358
  b0 :@Ne Nat K.b.l 370
  cf :∀ d,K.L < d → d ≤ K.L + 7 → d ≠ K.f
  ca :∀ d :Nat,K.L < d → d ≤ K.L + 7 → d ≠ K.a.l
  cb :∀ d :Nat,K.L < d → d ≤ K.L + 7 → d ≠ K.b.l
  c8 :∀ d,K.L < d → d ≤ K.L + 7 → d ≠ 358
  c0 :∀ d,K.L < d → d ≤ K.L + 7 → d ≠ 370
  up :∀ x ∈ mutP K,x ≤ K.b.l
  uf :∀ (P :Params),∀ p ∈ fixL P K,@LE.le Nat instLENat p.1 K.b.l
theorem LK.Ok.of {K :LK} (h1 :K.L + 7 < K.c) (h2 :370 < K.c) (h3 :K.c < K.f) (h4 :K.f < K.lo) (h5 :@LT.lt Nat instLTNat K.lo K.a.dd) (h6 :K.a.dd < K.a.d) (h7 :K.a.d < K.a.gl) (h8 :K.a.gl < K.a.l) (h9 :K.a.l < K.b.dd) (h10 :K.b.dd < K.b.d) (h11 :K.b.d < K.b.gl) (h12 :K.b.gl < K.b.l)
    (n8 :358 ≤ K.L ∨ K.L + 7 < 358) (n0 :370 ≤ K.L ∨ K.L + 7 < 370) :K.Ok :=by
  have lc :∀ x,x = 358 ∨ x = 370 ∨ (K.L < x ∧ x ≤ K.L + 7) → x < K.c :=fun x hx => by clear h3 h4 h5 h6 h7 h8 h9 h10 h11 h12 n8 n0; omega
  have fa :K.f < K.a.l :=Nat.lt_trans h4 (Nat.lt_trans h5 (Nat.lt_trans h6 (Nat.lt_trans h7 h8)))
  have bb :K.a.l < K.b.l :=Nat.lt_trans h9 (Nat.lt_trans h10 (Nat.lt_trans h11 h12))
  have cf :∀ x,x < K.c → x < K.f :=fun x h => Nat.lt_trans h h3
  have ca :∀ x,x < K.c → x < K.a.l :=fun x h => Nat.lt_trans (cf x h) fa
  have cb :∀ x,x < K.c → x < K.b.l :=fun x h => Nat.lt_trans (ca x h) bb
  have mu :∀ x ∈ mutP K,x < K.c ∨ x = K.f ∨ x = K.a.l ∨ x = K.b.l :=fun x hx => by
    simp only [mutP,List.mem_cons,List.not_mem_nil,or_false] at hx
    rcases hx with rfl | rfl | rfl | rfl | rfl | rfl | rfl | rfl | rfl | rfl | rfl | rfl
    · exact .inl (lc _ (.inl rfl))
    · exact .inl h2
    · exact .inr (.inr (.inl rfl))
    · exact .inr (.inr (.inr rfl))
    · exact .inr (.inl rfl)
    all_goals exact .inl (lc _ (.inr (.inr ⟨Nat.lt_add_of_pos_right (by decide),Nat.add_le_add_left (by decide) _⟩)))
  have no :∀ x :Nat,¬ x < K.c → x ≠ K.f → x ≠ K.a.l → x ≠ K.b.l → x ∉ mutP K :=fun x a1 a2 a3 a4 h => by
    rcases mu x h with h | h | h | h
    · exact a1 h
    · exact a2 h
    · exact a3 h
    · exact a4 h
  have gf :∀ x,K.f < x → ¬ x < K.c :=fun x h q => Nat.lt_irrefl _ (Nat.lt_trans h (cf x q))
  have q5 :K.f < K.a.dd :=Nat.lt_trans h4 h5
  have q6 :K.f < K.a.d :=Nat.lt_trans q5 h6
  have q7 :K.f < K.a.gl :=Nat.lt_trans q6 h7
  have p7 :K.a.d < K.a.l :=Nat.lt_trans h7 h8
  have p6 :K.a.dd < K.a.l :=Nat.lt_trans h6 p7
  have p5 :K.lo < K.a.l :=Nat.lt_trans h5 p6
  have s10 :K.a.l < K.b.d :=Nat.lt_trans h9 h10
  have s11 :K.a.l < K.b.gl :=Nat.lt_trans s10 h11
  have r11 :K.b.d < K.b.l :=Nat.lt_trans h11 h12
  have r10 :K.b.dd < K.b.l :=Nat.lt_trans h10 r11
  have low :∀ x :Nat,K.f < x → x < K.a.l → x ∉ mutP K :=fun x a1 a2 => no x (gf x a1) (Nat.ne_of_gt a1) (Nat.ne_of_lt a2) (Nat.ne_of_lt (Nat.lt_trans a2 bb))
  have hig :∀ x :Nat,K.a.l < x → x < K.b.l → x ∉ mutP K :=fun x a1 a2 => no x (gf x (Nat.lt_trans fa a1)) (Nat.ne_of_gt (Nat.lt_trans fa a1)) (Nat.ne_of_gt a1) (Nat.ne_of_lt a2)
  have l8 :(358 :Nat) < K.c :=lc _ (.inl rfl)
  have ic :∀ d,K.L < d → d ≤ K.L + 7 → d < K.c :=fun d a1 a2 => lc d (.inr (.inr ⟨a1,a2⟩))
  have n9 :∀ P d :Nat,P ≤ K.L ∨ K.L + 7 < P → K.L < d → d ≤ K.L + 7 → d ≠ P :=fun P d a1 a2 a3 e => by
    subst e
    rcases a1 with a1 | a1
    · exact Nat.lt_irrefl _ (Nat.lt_of_lt_of_le a2 a1)
    · exact Nat.lt_irrefl _ (Nat.lt_of_lt_of_le a1 a3)
  refine ⟨fun P p hp => ?_,Nat.ne_of_gt fa,Nat.ne_of_gt (Nat.lt_trans fa bb),Nat.ne_of_lt bb,Nat.ne_of_gt (cf _ l8),Nat.ne_of_gt (cf _ h2),Nat.ne_of_gt (ca _ l8),Nat.ne_of_gt (ca _ h2),Nat.ne_of_gt (cb _ l8),Nat.ne_of_gt (cb _ h2),fun d a1 a2 => Nat.ne_of_lt (cf _ (ic d a1 a2)),fun d a1 a2 => Nat.ne_of_lt (ca _ (ic d a1 a2)),fun d a1 a2 => Nat.ne_of_lt (cb _ (ic d a1 a2)),fun d => n9 358 d n8,fun d => n9 370 d n0,fun x hx => ?_,fun P p hp => ?_⟩
  · simp only [fixL,List.mem_cons,List.not_mem_nil,or_false] at hp
    rcases hp with rfl | rfl | rfl | rfl | rfl | rfl | rfl | rfl
    · exact low _ q6 p7
    · exact low _ q5 p6
    · exact low _ q7 h8
    · exact hig _ s10 r11
    · exact hig _ h9 r10
    · exact hig _ s11 h12
    · exact low _ h4 p5
    · exact no _ (Nat.lt_irrefl _) (Nat.ne_of_lt h3) (Nat.ne_of_lt (Nat.lt_trans h3 fa)) (Nat.ne_of_lt (Nat.lt_trans h3 (Nat.lt_trans fa bb)))
  · rcases mu x hx with h | rfl | rfl | rfl
    · exact Nat.le_of_lt (cb _ h)
    · exact Nat.le_of_lt (Nat.lt_trans fa bb)
    · exact Nat.le_of_lt bb
    · exact Nat.le_refl _
  · simp only [fixL,List.mem_cons,List.not_mem_nil,or_false] at hp
    rcases hp with rfl | rfl | rfl | rfl | rfl | rfl | rfl | rfl
    · exact Nat.le_of_lt (Nat.lt_trans p7 bb)
    · exact Nat.le_of_lt (Nat.lt_trans p6 bb)
    · exact Nat.le_of_lt (Nat.lt_trans h8 bb)
    · exact Nat.le_of_lt r11
    · exact Nat.le_of_lt r10
    · exact Nat.le_of_lt h12
    · exact Nat.le_of_lt (Nat.lt_trans p5 bb)
    · exact Nat.le_of_lt (Nat.lt_trans h3 (Nat.lt_trans fa bb))
noncomputable def NoCode (o :Obj) :Prop :=∀ q,¬ IsCode q o
theorem noCode_list {vs :Array Value} {n :Nat} :NoCode (listOf vs n) :=fun q ⟨_,_,h,_⟩ => by cases h
theorem noCode_cell {o :Obj} {v :Option Value} (h :o.data = .cell v) :NoCode o :=fun q ⟨_,_,h',_⟩ => by rw [h] at h'; cases h'
theorem noCode_tab {ps :Array Value} (h :TriplesOk ps.toList) :NoCode (tabObj ps) :=fun q ⟨vs,t,h',hv⟩ => by
  cases h'
  exact triples_one h (by simpa using hv)
structure LW (P :Params) (K :LK) (g :Heap) (k :Int) (tf :Tok) (va vb :List Value) (cm :Str → Option Value) (X led :List (Addr × Obj)) :Prop where
  fix :∀ p ∈ fixL P K,p ∈ led
  ma :(K.a.l,listOf va.toArray K.a.n) ∈ led
  mb :(K.b.l,listOf vb.toArray K.b.n) ∈ led
  mf :(K.f,listOf [Value.ref K.c,.int k tf].toArray K.nf) ∈ led
  cel :∀ x d,(x,d) ∈ lawCells K.L → ∃ o,(d,o) ∈ led ∧ o.data = .cell (cm x)
  t8 :∃ ps,(358,tabObj ps) ∈ led ∧ TabCov deedQ ps g led
  t0 :∃ ps,(370,tabObj ps) ∈ led ∧ TabCov lawQ ps g led
  ex :∀ p ∈ X,p ∈ led ∧ p.1 ∉ mutP K
section
variable {P :Params} {K :LK} {g h h' :Heap} {L :Nat} {k k' :Int} {tf tf' :Tok} {va vb va' vb' :List Value} {cm cm' :Str → Option Value} {X led led' :List (Addr × Obj)} {ch :List Addr}
noncomputable abbrev LW.mut_Q (P :Params) (K :LK) (g :Heap) (k :Int) (tf :Tok) (va vb :List Value) (cm :Str → Option Value) (X led :List (Addr × Obj)) :Prop :=∀ (W :LW P K g k tf va vb cm X led),∀ x ∈ mutP K,∃ o,(x,o) ∈ led ∧ NoCode o
theorem LW.mut_L :∀ P K g k tf va vb cm X led,LW.mut_Q P K g k tf va vb cm X led :=by
  refine ei8 (h :=?_)
  generalize (ep8 _).1 = P
  generalize (ep8 _).2.1 = K
  generalize (ep8 _).2.2.1 = g
  generalize (ep8 _).2.2.2.1 = k
  generalize (ep8 _).2.2.2.2.1 = tf
  generalize (ep8 _).2.2.2.2.2.1 = va
  generalize (ep8 _).2.2.2.2.2.2.1 = vb
  generalize (ep8 _).2.2.2.2.2.2.2 = cm
  refine ei2 (h :=?_)
  generalize (ep2 _).1 = X
  generalize (ep2 _).2 = led
  delta LW.mut_Q
  intros W
  have cel :∀ x d,(x,d) ∈ lawCells K.L → ∃ o,(d,o) ∈ led ∧ NoCode o :=fun x d h => let ⟨o,h1,h2⟩ :=W.cel x d h; ⟨o,h1,noCode_cell h2⟩
  intros x hx
  simp only [mutP,List.mem_cons,List.not_mem_nil,or_false] at hx
  rcases hx with rfl | rfl | rfl | rfl | rfl | rfl | rfl | rfl | rfl | rfl | rfl | rfl
  · obtain ⟨ps,h1,h2⟩ :_ :=W.t8; exact ⟨_,h1,noCode_tab h2.1⟩
  · obtain ⟨ps,h1,h2⟩ :_ :=W.t0; exact ⟨_,h1,noCode_tab h2.1⟩
  · exact ⟨_,W.ma,noCode_list⟩
  · exact ⟨_,W.mb,noCode_list⟩
  · exact ⟨_,W.mf,noCode_list⟩
  · exact cel (Str.ofString "octet") _ (by simp [lawCells])
  · exact cel (Str.ofString "disk") _ (by simp [lawCells])
  · exact cel (Str.ofString "its_user") _ (by simp [lawCells])
  · exact cel (Str.ofString "mate") _ (by simp [lawCells])
  · exact cel (Str.ofString "raws") _ (by simp [lawCells])
  · exact cel (Str.ofString "spot") _ (by simp [lawCells])
  · exact cel (Str.ofString "user") _ (by simp [lawCells])
theorem LW.mut :LW.mut_Q P K g k tf va vb cm X led :=LW.mut_L P K g k tf va vb cm X led
theorem cov_keep {q :Str} {ps :Array Value} (C :TabCov q ps g led) (N :News g L h led) (hch :∀ x ∈ ch,∃ o,(x,o) ∈ led ∧ NoCode o) (H :∀ p ∈ led,p.1 ∉ ch → p ∈ led') :TabCov q ps g led' :=
  ⟨C.1,fun pos cv e => by
    obtain ⟨c',oc,e1,e2,e3⟩ :_ :=C.2 pos cv e
    refine ⟨c',oc,e1,e2,e3.imp (fun hm => H _ hm fun hx => ?_) id⟩
    obtain ⟨o,h1,h2⟩ :_ :=hch _ hx
    have z1 :h.get? c' = some oc :=(N _ hm).1
    have z2 :h.get? c' = some o :=(N _ h1).1
    rw [z1] at z2
    cases z2
    exact h2 _ e2⟩
theorem LW.turn (W :LW P K g k tf va vb cm X led) (N :News g L h led) (ok :K.Ok) (ch :List Addr) (hch :∀ x ∈ ch,x ∈ mutP K) (H :∀ p ∈ led,p.1 ∉ ch → p ∈ led')
    (ma :(K.a.l,listOf va'.toArray K.a.n) ∈ led') (mb :(K.b.l,listOf vb'.toArray K.b.n) ∈ led') (mf :(K.f,listOf [Value.ref K.c,.int k' tf'].toArray K.nf) ∈ led')
    (cel :∀ x d,(x,d) ∈ lawCells K.L → ∃ o,(d,o) ∈ led' ∧ o.data = .cell (cm' x))
    (t8 :(358 :Nat) ∉ ch ∨ ∃ ps,(358,tabObj ps) ∈ led' ∧ TabCov deedQ ps g led') (t0 :(370 :Nat) ∉ ch ∨ ∃ ps,(370,tabObj ps) ∈ led' ∧ TabCov lawQ ps g led') :LW P K g k' tf' va' vb' cm' X led' where
  fix :=fun p hp => H p (W.fix p hp) fun q => ok.fx _ p hp (hch _ q)
  ma :=ma
  mb :=mb
  mf :=mf
  cel :=cel
  t8 :=t8.elim (fun n => let ⟨ps,h1,h2⟩ :=W.t8; ⟨ps,H _ h1 n,cov_keep h2 N (fun x hx => W.mut x (hch x hx)) H⟩) id
  t0 :=t0.elim (fun n => let ⟨ps,h1,h2⟩ :=W.t0; ⟨ps,H _ h1 n,cov_keep h2 N (fun x hx => W.mut x (hch x hx)) H⟩) id
  ex :=fun p hp => ⟨H p (W.ex p hp).1 fun q => (W.ex p hp).2 (hch _ q),(W.ex p hp).2⟩
theorem LW.celH (W :LW P K g k tf va vb cm X led) (H :∀ p ∈ led,p.1 ∉ ch → p ∈ led') (hc :∀ x d,(x,d) ∈ lawCells K.L → d ∉ ch) :∀ x d,(x,d) ∈ lawCells K.L → ∃ o,(d,o) ∈ led' ∧ o.data = .cell (cm x) :=fun x d h =>
  let ⟨o,h1,h2⟩ :=W.cel x d h
  ⟨o,H _ h1 (hc x d h),h2⟩
theorem LW.mono (W :LW P K g k tf va vb cm X led) (N :News g L h led) (ok :K.Ok) (H :∀ p ∈ led,p ∈ led') :LW P K g k tf va vb cm X led' :=
  W.turn N ok [] (fun _ h => nomatch h) (fun p hp _ => H p hp) (H _ W.ma) (H _ W.mb) (H _ W.mf) (fun x d h => let ⟨o,h1,h2⟩ :=W.cel x d h; ⟨o,H _ h1,h2⟩) (.inl (fun h => nomatch h)) (.inl (fun h => nomatch h))
theorem LW.out (W :LW P K g k tf va vb cm X led) {x :Nat} (h :∀ q ∈ led,q.1 ≠ x) :x ∉ mutP K :=fun hx =>
  let ⟨o,h1,_⟩ :=W.mut x hx
  h _ h1 rfl
theorem LW.less {X' :List (Addr × Obj)} (W :LW P K g k tf va vb cm X led) (h :∀ p ∈ X',p ∈ X) :LW P K g k tf va vb cm X' led :={ W with ex :=fun p hp => W.ex p (h p hp) }
theorem LW.more {X' :List (Addr × Obj)} (W :LW P K g k tf va vb cm X led) (h :∀ p ∈ X',p ∈ led ∧ p.1 ∉ mutP K) :LW P K g k tf va vb cm (X' ++ X) led :={ W with ex :=fun p hp => (List.mem_append.mp hp).elim (h p) (W.ex p) }
theorem cells_place {x :Str} {d :Nat} (h :(x,d) ∈ lawCells L) :L < d ∧ d ≤ L + 7 :=by
  simp only [lawCells,List.mem_cons,Prod.mk.injEq,List.not_mem_nil,or_false] at h
  rcases h with ⟨_,rfl⟩ | ⟨_,rfl⟩ | ⟨_,rfl⟩ | ⟨_,rfl⟩ | ⟨_,rfl⟩ | ⟨_,rfl⟩ | ⟨_,rfl⟩ <;> exact ⟨Nat.lt_add_of_pos_right (by decide),Nat.add_le_add_left (by decide) _⟩
noncomputable abbrev cells_mut_Q (K :LK) (x :Str) (d :Nat) :Prop :=∀ (h :(x,d) ∈ lawCells K.L),d ∈ mutP K
theorem cells_mut_L :∀ K x d,cells_mut_Q K x d :=by
  refine ei3 (h :=?_)
  generalize (ep3 _).1 = K
  generalize (ep3 _).2.1 = x
  generalize (ep3 _).2.2 = d
  delta cells_mut_Q
  intros h
  simp only [lawCells,List.mem_cons,Prod.mk.injEq,List.not_mem_nil,or_false] at h
  rcases h with ⟨_,rfl⟩ | ⟨_,rfl⟩ | ⟨_,rfl⟩ | ⟨_,rfl⟩ | ⟨_,rfl⟩ | ⟨_,rfl⟩ | ⟨_,rfl⟩ <;> simp [mutP]
theorem cells_mut {K :LK} {x :Str} {d :Nat} :cells_mut_Q K x d :=cells_mut_L K x d
noncomputable abbrev cells_one_Q (L :Nat) (x y :Str) (d e :Nat) :Prop :=∀ (hx :(x,d) ∈ lawCells L) (hy :(y,e) ∈ lawCells L),x = y ↔ d = e
theorem cells_one_L :∀ L x y d e,cells_one_Q L x y d e :=by
  refine ei5 (h :=?_)
  generalize (ep5 _).1 = L
  generalize (ep5 _).2.1 = x
  generalize (ep5 _).2.2.1 = y
  generalize (ep5 _).2.2.2.1 = d
  generalize (ep5 _).2.2.2.2 = e
  delta cells_one_Q
  intros hx hy
  simp only [lawCells,List.mem_cons,Prod.mk.injEq,List.not_mem_nil,or_false] at hx hy
  rcases hx with ⟨rfl,rfl⟩ | ⟨rfl,rfl⟩ | ⟨rfl,rfl⟩ | ⟨rfl,rfl⟩ | ⟨rfl,rfl⟩ | ⟨rfl,rfl⟩ | ⟨rfl,rfl⟩ <;> rcases hy with ⟨rfl,rfl⟩ | ⟨rfl,rfl⟩ | ⟨rfl,rfl⟩ | ⟨rfl,rfl⟩ | ⟨rfl,rfl⟩ | ⟨rfl,rfl⟩ | ⟨rfl,rfl⟩ <;>
    first
    | exact ⟨fun _ => rfl,fun _ => rfl⟩
    | exact ⟨fun h => absurd h (by decide),fun h => absurd (Nat.add_left_cancel h) (by decide)⟩
theorem cells_one {x y :Str} {d e :Nat} :cells_one_Q L x y d e :=cells_one_L L x y d e
end
end
end
section
section
section
variable {w :World} {dp un :Nat} {fr :Option (List Env)} {gd :Option (List Code)} {s :Shared} {mg mb :Str → Option Value} {G g :Heap} {M :Model} {A :Around} {E :Value → Shared → Prop}
  {K :LK} {k :Int} {tf :Tok} {va vb :List Value} {cm m :Str → Option Value} {X led :List (Addr × Obj)} {L :Addr}
theorem LW.store {cn x :Str} {cs :Scope} {a c :Addr} {ccd v :Value} {cl :List (Str × Addr)} {Q :Unit → Shared → Prop} (W :LW w.params K g k tf va vb cm X led) (ok :K.Ok) (F :Fr g L s.heap m) (N :News g L s.heap led) (hc :cl.lookup x = some c) (hx :(x,c) ∈ lawCells K.L)
    (h :∀ h' led',Fr g L h' m → News g L h' led' → LW w.params K g k tf va vb (fun z => if z = x then some v else cm z) X led' → Q () { s with heap :=h' })
    (hk :cs.kind = .function :=by rfl) (hkd :(envX cn cs L a ccd cl).kindOf x = some .cell :=by rfl) :wpAny M A (storeName (envX cn cs L a ccd cl) x v) Q E s :=by
  obtain ⟨o,hm,hd⟩ :_ :=W.cel x c hx
  have hmem :=N _ hm
  have pl :=cells_place hx
  refine wpAny_storeName_cell hk hkd hc ⟨o,hmem.1,hd⟩ fun h' hv hs => ?_
  obtain ⟨o',ho',hd'⟩ :_ :=hv
  have F' :Fr g L h' m :=⟨F.ns.sameBut hs (Ne.symm hmem.2.1),fun b o e => (hs.2 b (fun q => by rw [q,hmem.2.2] at e; cases e)).trans (F.keep b o e),F.above⟩
  have kp :∀ p ∈ led,p.1 ∉ [c] → p ∈ (c,o') :: dropN c led :=fun p hp n => List.mem_cons_of_mem _ (mem_dropN.mpr ⟨hp,fun e => n (List.mem_singleton.mpr e)⟩)
  have N' :News g L h' ((c,o') :: dropN c led) :=fun p hp => by
    rcases List.mem_cons.mp hp with rfl | hp
    · exact ⟨ho',hmem.2⟩
    · obtain ⟨hp,ne⟩ :_ :=mem_dropN.mp hp
      exact ⟨(hs.2 _ ne).trans (N _ hp).1,(N _ hp).2⟩
  have ne :∀ z :Nat,c ≠ z → z ∉ [c] :=fun z hz q => hz (List.mem_singleton.mp q).symm
  refine h h' _ F' N' (W.turn N ok [c] (fun x hx' => List.mem_singleton.mp hx' ▸ cells_mut hx) kp (kp _ W.ma (ne _ (ok.ca c pl.1 pl.2))) (kp _ W.mb (ne _ (ok.cb c pl.1 pl.2))) (kp _ W.mf (ne _ (ok.cf c pl.1 pl.2))) (fun y d hy => ?_) (.inl (ne _ (ok.c8 c pl.1 pl.2))) (.inl (ne _ (ok.c0 c pl.1 pl.2))))
  have one :=cells_one hy hx
  by_cases q :y = x
  · refine ⟨o',?_,?_⟩
    · rw [one.mp q]; exact List.mem_cons_self
    · rw [hd',if_pos q]
  · obtain ⟨o2,h1,h2⟩ :_ :=W.cel y d hy
    refine ⟨o2,kp _ h1 (fun z => q (one.mpr (List.mem_singleton.mp z))),?_⟩
    rw [h2,if_neg q]
theorem LW.load {cn x :Str} {cs :Scope} {a c :Addr} {ccd v :Value} {cl :List (Str × Addr)} {pos :Pos} {Q :Value → Shared → Prop} (W :LW w.params K g k tf va vb cm X led) (N :News g L s.heap led) (hc :cl.lookup x = some c) (hx :(x,c) ∈ lawCells K.L) (hv :cm x = some v) (h :Q v s)
    (hk :cs.kind = .function :=by rfl) (hkd :(envX cn cs L a ccd cl).kindOf x = some .cell :=by rfl) (hb :(x == ("__debug__" :Str)) = false :=by decide) :
    wpAny M A (eval (.Name x pos) (envX cn cs L a ccd cl)) Q E s :=by
  obtain ⟨o,hm,hd⟩ :_ :=W.cel x c hx
  rw [hv] at hd
  exact wpAny_Name (wpAny_loadName_cell hk hkd hc ⟨o,N.get hm,hd⟩ h) hb
theorem LW.next {many :Int} {tm :Tok} {cells :List Int} {Q E :Value → Shared → Prop} (W :LW w.params K g k tf va vb cm X led) (ok :K.Ok) (F :Fr g L s.heap m) (N :News g L s.heap led) (gh :GH w mg mb G) (st :Stay G s.heap) (sg :Stay G g) (lv :Lv dp un 1)
    (hI :IntsAre K.cs cells) (hl :cells.length ≤ 60) (k0 :0 ≤ k) (k1 :k < 1000) (h0 :0 < many) (h1 :many < 1000)
    (kk :∀ v t t' h' tk' led',0 ≤ v → v < many → Fr g L h' m → News g L h' led' → LW w.params K g (k + 1) t' va vb cm X led' → Q (.int v t) { s with heap :=h',toks :=tk' }) :
    wpAny (model PG w) (AR dp un fr gd) (call (.ref 342) [.ref K.f,.int many tm]) Q E s :=by
  obtain ⟨kn,rfl⟩ :∃ kn :Nat,k = (kn :Int) :=⟨k.toNat,by omega⟩
  have mc :(K.c,listOf K.cs.toArray K.nc) ∈ led :=W.fix _ (by simp [fixL])
  refine useM (law_next_ok gh st (HN.of N sg) lv W.mf mc hI hl (by omega) h0 h1) F N W.mf ?_
  rintro r tl o h' tk' ⟨⟨v,t,rfl,v0,v1⟩,rfl,t',rfl⟩ F' N' _
  have e :((kn + 1 :Nat) :Int) = (kn :Int) + 1 :=by omega
  rw [e] at N'
  simp only [List.nil_append] at N'
  have kp :∀ p ∈ led,p.1 ∉ [K.f] → p ∈ (K.f,listOf [Value.ref K.c,.int ((kn :Int) + 1) t'].toArray K.nf) :: dropN K.f led :=fun p hp n => List.mem_cons_of_mem _ (mem_dropN.mpr ⟨hp,fun e => n (List.mem_singleton.mpr e)⟩)
  have ne :∀ z :Nat,z ≠ K.f → z ∉ [K.f] :=fun z hz q => hz (List.mem_singleton.mp q)
  exact kk v t t' h' tk' _ v0 v1 F' N' (W.turn N ok [K.f] (fun x hx => by rw [List.mem_singleton.mp hx]; simp [mutP]) kp (kp _ W.ma (ne _ ok.af)) (kp _ W.mb (ne _ ok.bf)) List.mem_cons_self (W.celH kp fun x d hx => ne d (ok.cf d (cells_place hx).1 (cells_place hx).2)) (.inl (ne _ (Ne.symm ok.f8))) (.inl (ne _ (Ne.symm ok.f0))))
theorem LW.storeS {led0 :List (Addr × Obj)} {cn x :Str} {cs :Scope} {a c :Addr} {ccd v :Value} {cl :List (Str × Addr)} {Q :Unit → Shared → Prop} (W :LW w.params K g k tf va vb cm X led0) (ok :K.Ok) (F :Fr g L s.heap m) (N :News g L s.heap led) (hs :∀ p ∈ led0,p ∈ led) (hc :cl.lookup x = some c) (hx :(x,c) ∈ lawCells K.L)
    (h :∀ h' led',Fr g L h' m → News g L h' led' → LW w.params K g k tf va vb (fun z => if z = x then some v else cm z) X led' → Q () { s with heap :=h' })
    (hk :cs.kind = .function :=by rfl) (hkd :(envX cn cs L a ccd cl).kindOf x = some .cell :=by rfl) :wpAny M A (storeName (envX cn cs L a ccd cl) x v) Q E s :=
  LW.store (W.mono (News.sub N hs) ok hs) ok F N hc hx h hk hkd
theorem LW.loadS {led0 :List (Addr × Obj)} {cn x :Str} {cs :Scope} {a c :Addr} {ccd v :Value} {cl :List (Str × Addr)} {pos :Pos} {Q :Value → Shared → Prop} (W :LW w.params K g k tf va vb cm X led0) (N :News g L s.heap led) (hs :∀ p ∈ led0,p ∈ led) (hc :cl.lookup x = some c) (hx :(x,c) ∈ lawCells K.L) (hv :cm x = some v) (h :Q v s)
    (hk :cs.kind = .function :=by rfl) (hkd :(envX cn cs L a ccd cl).kindOf x = some .cell :=by rfl) (hb :(x == ("__debug__" :Str)) = false :=by decide) :
    wpAny M A (eval (.Name x pos) (envX cn cs L a ccd cl)) Q E s :=LW.load W (News.sub N hs) hc hx hv h hk hkd hb
theorem LW.nextS {led0 :List (Addr × Obj)} {many :Int} {tm :Tok} {cells :List Int} {Q E :Value → Shared → Prop} (W :LW w.params K g k tf va vb cm X led0) (ok :K.Ok) (F :Fr g L s.heap m) (N :News g L s.heap led) (hs :∀ p ∈ led0,p ∈ led) (gh :GH w mg mb G) (st :Stay G s.heap) (sg :Stay G g) (lv :Lv dp un 1)
    (hI :IntsAre K.cs cells) (hl :cells.length ≤ 60) (k0 :0 ≤ k) (k1 :k < 1000) (h0 :0 < many) (h1 :many < 1000)
    (kk :∀ v t t' h' tk' led',0 ≤ v → v < many → Fr g L h' m → News g L h' led' → LW w.params K g (k + 1) t' va vb cm X led' → Q (.int v t) { s with heap :=h',toks :=tk' }) :
    wpAny (model PG w) (AR dp un fr gd) (call (.ref 342) [.ref K.f,.int many tm]) Q E s :=
  LW.next (W.mono (News.sub N hs) ok hs) ok F N gh st sg lv hI hl k0 k1 h0 h1 kk
theorem LW.grab {h :Heap} {D :Nat} {o :Obj} (W :LW w.params K g k tf va vb cm X led) (ok :K.Ok) (N :News g L h ((D,o) :: led)) (hD :∀ q ∈ led,q.1 ≠ D) :LW w.params K g k tf va vb cm ((D,o) :: X) ((D,o) :: led) :=
  LW.more (X' :=[(D,o)]) (W.mono (News.sub N fun p hp => List.mem_cons_of_mem _ hp) ok fun p hp => List.mem_cons_of_mem _ hp) fun p hp => by rw [List.mem_singleton.mp hp]; exact ⟨List.mem_cons_self,W.out hD⟩
theorem LW.storeT {D :Nat} {oT :Obj} {cn x :Str} {cs :Scope} {a c :Addr} {ccd v :Value} {cl :List (Str × Addr)} {Q :Unit → Shared → Prop} (W :LW w.params K g k tf va vb cm X led) (ok :K.Ok) (F :Fr g L s.heap m) (N :News g L s.heap ((D,oT) :: led)) (hD :∀ q ∈ led,q.1 < D) (hc :cl.lookup x = some c) (hx :(x,c) ∈ lawCells K.L)
    (h :∀ h' led',Fr g L h' m → News g L h' led' → LW w.params K g k tf va vb (fun z => if z = x then some v else cm z) ((D,oT) :: X) led' → Q () { s with heap :=h' })
    (hk :cs.kind = .function :=by rfl) (hkd :(envX cn cs L a ccd cl).kindOf x = some .cell :=by rfl) :wpAny M A (storeName (envX cn cs L a ccd cl) x v) Q E s :=
  LW.store (W.grab ok N fun q hq => Nat.ne_of_lt (hD q hq)) ok F N hc hx h hk hkd
theorem LW.storeU {D1 D2 :Nat} {p1 p2 :Obj} {cn x :Str} {cs :Scope} {a c :Addr} {ccd v :Value} {cl :List (Str × Addr)} {Q :Unit → Shared → Prop} (W :LW w.params K g k tf va vb cm X led) (ok :K.Ok) (F :Fr g L s.heap m) (N :News g L s.heap ((D2,p2) :: (D1,p1) :: led)) (hD :∀ q ∈ led,q.1 < D1) (hE :D1 < D2 ∧ AllLt D2 led) (hc :cl.lookup x = some c) (hx :(x,c) ∈ lawCells K.L)
    (h :∀ h' led',Fr g L h' m → News g L h' led' → LW w.params K g k tf va vb (fun z => if z = x then some v else cm z) ((D2,p2) :: (D1,p1) :: X) led' → Q () { s with heap :=h' })
    (hk :cs.kind = .function :=by rfl) (hkd :(envX cn cs L a ccd cl).kindOf x = some .cell :=by rfl) :wpAny M A (storeName (envX cn cs L a ccd cl) x v) Q E s :=by
  have W1 :=W.grab ok (News.sub N fun q hq => List.mem_cons_of_mem _ hq) fun q hq => Nat.ne_of_lt (hD q hq)
  refine LW.store (W1.grab ok N fun q hq => ?_) ok F N hc hx h hk hkd
  rcases List.mem_cons.mp hq with rfl | hq
  · exact Nat.ne_of_lt hE.1
  · exact Nat.ne_of_lt (allLt hE.2 q hq)
theorem LW.hide {P :Params} {h :Heap} {p :Prop} (N :News g L h led) (W :LW P K g k tf va vb cm X led) (kk :∀ led,News g L h led → LW P K g k tf va vb cm X led → p) :p :=kk led N W
theorem item_two {prog :Program} {value slice :PySem.Expr} {T :Addr} {x y :Value} {j :Int} {u :Tok} {Q :Value → Shared → Prop} (N :News g L s.heap led) (hm :(T,tupOf [x,y]) ∈ led) (hj :j = 0 ∨ j = 1) (h0 :j = 0 → Q x s) (h1 :j = 1 → Q y s)
    (hs :subscripted slice false (.ref T) (.int j u) = operate [.ref T,.int j u] (getItem (.ref T) (.int j u)) :=by with_unfolding_all rfl) (hg :∀ r,letTemporaryGo value (.ref T) r = pure () :=by intros _; with_unfolding_all rfl) :
    wpAny (model prog w) A (subscriptTail value slice (.ref T) (.int j u)) Q E s :=by
  rcases hj with rfl | rfl
  · exact item_tupleL (l :=[x,y]) (j :=0) ⟨_,(N _ hm).1,rfl,_,rfl⟩ (by decide) (by decide) rfl rfl (h0 rfl) hs hg
  · exact item_tupleL (l :=[x,y]) (j :=1) ⟨_,(N _ hm).1,rfl,_,rfl⟩ (by decide) (by decide) rfl rfl (h1 rfl) hs hg
theorem item_two0 {prog :Program} {value slice :PySem.Expr} {T :Addr} {x y :Value} {u :Tok} {Q :Value → Shared → Prop} (N :News g L s.heap led) (hm :(T,tupOf [x,y]) ∈ led) (h0 :Q x s)
    (hs :subscripted slice false (.ref T) (.int 0 u) = operate [.ref T,.int 0 u] (getItem (.ref T) (.int 0 u)) :=by with_unfolding_all rfl) (hg :∀ r,letTemporaryGo value (.ref T) r = pure () :=by intros _; with_unfolding_all rfl) :
    wpAny (model prog w) A (subscriptTail value slice (.ref T) (.int 0 u)) Q E s :=item_two N hm (.inl rfl) (fun _ => h0) (fun h => by cases h) hs hg
theorem item_two1 {prog :Program} {value slice :PySem.Expr} {T :Addr} {x y :Value} {u :Tok} {Q :Value → Shared → Prop} (N :News g L s.heap led) (hm :(T,tupOf [x,y]) ∈ led) (h0 :Q y s)
    (hs :subscripted slice false (.ref T) (.int 1 u) = operate [.ref T,.int 1 u] (getItem (.ref T) (.int 1 u)) :=by with_unfolding_all rfl) (hg :∀ r,letTemporaryGo value (.ref T) r = pure () :=by intros _; with_unfolding_all rfl) :
    wpAny (model prog w) A (subscriptTail value slice (.ref T) (.int 1 u)) Q E s :=item_two N hm (.inr rfl) (fun h => by cases h) (fun _ => h0) hs hg
theorem LW.da {D :List Int} (W :LW w.params K g k tf va vb cm X led) (hI :IntsAre va D) (hl :D.length = 1408) :DM w.params K.a va D led :=
  ⟨W.fix _ (by simp [fixL]),W.fix _ (by simp [fixL]),W.fix _ (by simp [fixL]),W.ma,hI,hl⟩
theorem LW.db {D :List Int} (W :LW w.params K g k tf va vb cm X led) (hI :IntsAre vb D) (hl :D.length = 1408) :DM w.params K.b vb D led :=
  ⟨W.fix _ (by simp [fixL]),W.fix _ (by simp [fixL]),W.fix _ (by simp [fixL]),W.mb,hI,hl⟩
theorem DM.drop {P :Params} {a :DA} {vs :List Value} {D :List Int} (dm :DM P a vs D led) {x :Nat} (h1 :a.d ≠ x) (h2 :a.dd ≠ x) (h3 :a.gl ≠ x) (h4 :a.l ≠ x) :DM P a vs D (dropN x led) :=
  ⟨mem_dropN.mpr ⟨dm.m1,h1⟩,mem_dropN.mpr ⟨dm.m2,h2⟩,mem_dropN.mpr ⟨dm.m3,h3⟩,mem_dropN.mpr ⟨dm.m4,h4⟩,dm.hI,dm.hl⟩
theorem stk_one {h :Heap} {env :Env} (F :Fr g L h m) (hf :env.frame = some L) (hk :env.scope.kind = .function) :Stk h [env] :=by
  obtain ⟨o,es,ep,hL,hd,_⟩ :_ :=F.ns
  have hL' :L ∈ frs [env] :=by simp [frs,hf]
  exact ⟨by rw [hk]; decide,⟨L,o,hf,hideAll_none _ hL',hL,fun vs q => by rw [hd] at q; cases q⟩,trivial⟩
end
end
end
section
section
noncomputable def ReadV :Option (List Int) → Value → List (Addr × Obj) → Prop
  | none => IsN
  | some os => IsIL os
section
theorem read_ok {l n :Nat} {ws :List Value} {ps :List Int} {u i :Int} {t t' :Tok} (gh :GH w mg mb G) (st :Stay G s.heap) (hn :HN G s.heap news) (lv :Lv dp un 8) (dm :DM w.params a vs D news) (q1 :(l,listOf ws.toArray n) ∈ news) (qI :IntsAre ws ps) (ql :ps.length = 11) (hu :u ≠ 229) (i0 :0 ≤ i) (i1 :i < 140)
    (hm :∀ row,firstX (findF D u ps) (i / 64) = some row → ∀ k :Nat,0 ≤ row.2.map.getD k 0 ∧ row.2.map.getD k 0 < 11) :
    wpAny (model rw_tg0048_01.row.prog w) (AR dp un fr gd) (call (.ref 328) [.ref a.d,.int u t,.ref l,.int i t']) (RetG s news (ReadV (readF D u ps i))) (fun _ _ => False) s :=by
  unfold readF
  cases hx :firstX (findF D u ps) (i / 64) with
  | none => exact read_at_none gh st hn lv dm q1 qI ql hu i0 i1 hx
  | some row =>
    have b :=hm row hx ((i % 64).fdiv 4).toNat
    have e4 :(i % 64).fdiv 4 = i % 64 / 4 :=Int.fdiv_eq_ediv_of_nonneg _ (by decide)
    have e5 :(i % 64).fmod 4 = i % 64 % 4 :=Int.fmod_eq_emod_of_nonneg _ (by decide)
    show wpAny _ _ _ (RetG s news (ReadV (readRow D row.2 (i % 64)))) _ _
    unfold readRow
    by_cases hc :row.2.ct ≤ i % 64
    · rw [if_pos hc]
      exact read_at_low gh st hn lv dm q1 qI ql hu i0 i1 hx hc
    · rw [if_neg hc]
      by_cases hz :row.2.map.getD ((i % 64).fdiv 4).toNat 0 = 0
      · have hz' :slotF row.2 (i % 64) = 0 :=by unfold slotF; rw [← e4]; exact hz
        rw [if_pos hz']
        exact read_at_zero gh st hn lv dm q1 qI ql hu i0 i1 hx hc hz
      · have hz' :¬ slotF row.2 (i % 64) = 0 :=by unfold slotF; rw [← e4]; exact hz
        rw [if_neg hz']
        have :=read_at_full (t :=t) (t' :=t') (fr :=fr) (gd :=gd) gh st hn lv dm q1 qI ql hu i0 i1 hx hc hz b.1 b.2
        rw [e5,e4] at this
        exact this
theorem RetG.chg2 {h0 :Heap} {fl :List Env} {P :Value → List (Addr × Obj) → Prop} {r :Value} {s' :Shared} (h :RetG s news P r s') (k :∀ b o,h0.get? b = some o → s.heap.get? b = some o) :
    ChG s fl [] (fun r h' => ∃ tl,P r tl ∧ ∀ p ∈ tl,h'.get? p.1 = some p.2 ∧ h0.get? p.1 = none) r s' :=by
  obtain ⟨h',tk,tl,rfl,st,ht,hP⟩ :_ :=h
  refine ⟨h',tk,rfl,fun b o e _ _ => st _ _ e,fun b o e _ _ => ⟨o.slots,st _ _ e⟩,tl,hP,fun p hp => ⟨(ht p hp).1,?_⟩⟩
  cases q :h0.get? p.1 with
  | none => rfl
  | some o => have :=k _ _ q; rw [(ht p hp).2.1] at this; cases this
end
section
variable {w :World} {dp un :Nat} {fr :Option (List Env)} {gd :Option (List Code)} {s :Shared} {mg mb :Str → Option Value} {G g :Heap} {E :Value → Shared → Prop}
  {K :LK} {k :Int} {tf :Tok} {va vb :List Value} {cm m :Str → Option Value} {X led :List (Addr × Obj)} {L :Addr} {env :Env}
theorem LW.deedA {u kind sp :Int} {t tk ts :Tok} {l l2 l3 n n2 n3 :Addr} {ws us os :List Value} {ps xs oc D :List Int} {T :Told} {D' :List Int} {Q :Value → Shared → Prop} (W :LW w.params K g k tf va vb cm X led) (ok :K.Ok) (F :Fr g L s.heap m) (N :News g L s.heap led) (gh :GH w mg mb G) (st :Stay G s.heap) (sg :Stay G g) (lv :Lv dp un 20)
    (hf :env.frame = some L) (hkf :env.scope.kind = .function) (gL :G.get? L = none) (g358 :G.get? 358 = none) (iA :IntsAre va D) (hD :D.length = 1408)
    (q1 :(l,listOf ws.toArray n) ∈ X) (qI :IntsAre ws ps) (ql :ps.length = 11) (q2 :(l2,listOf us.toArray n2) ∈ X) (rI :IntsAre us xs) (rl :xs.length = 11) (q3 :(l3,listOf os.toArray n3) ∈ X) (oI :IntsAre os oc) (ol :oc.length = 32)
    (hu :0 ≤ u ∧ u < 2) (hsp :0 ≤ sp ∧ sp < 140) (k0 :0 ≤ kind) (R :DeedRel D u kind ps xs sp oc T D')
    (kk :∀ r h' tk' led' va',IsTold T r → Fr g L h' m → News g L h' led' → LW w.params K g k tf va' vb cm X led' → IntsAre va' D' → Q r { s with heap :=h',toks :=tk' }) :
    wpAny (model PG w) (AR dp un (some [env]) gd) (call (.ref 363) [.ref K.a.d,.int u t,.int kind tk,.ref l,.ref l2,.int sp ts,.ref l3]) Q E s :=by
  obtain ⟨ps0,h1,C0⟩ :_ :=W.t8
  have hN :=HN.of N sg
  have nl :(K.a.l :Nat) ∈ mutP K :=by simp [mutP]
  have m8 :(358 :Nat) ∈ mutP K :=by simp [mutP]
  have fx :∀ p ∈ fixL w.params K,p.1 ≠ 358 :=fun p hp e => ok.fx _ p hp (by have e :p.1 = (358 :Nat) :=e; rw [e]; exact m8)
  have l8 :(K.a.l :Nat) ≠ 358 :=ok.a8
  have ex :∀ p ∈ X,p ∈ dropN 358 led :=fun p hp => mem_dropN.mpr ⟨(W.ex p hp).1,fun e => (W.ex p hp).2 (by have e :p.1 = (358 :Nat) :=e; rw [e]; exact m8)⟩
  have dm :=(W.da iA hD).drop (x :=358) (fx (K.a.d,instObj 53 K.a.dd) (by simp [fixL])) (fx (K.a.dd,dictOf (diskD w.params K.a) 7) (by simp [fixL])) (fx (K.a.gl,listOf [].toArray K.a.gn) (by simp [fixL])) l8
  have eL :frs [env] = [L] :=by simp [frs,hf]
  have nLa :K.a.l ≠ L :=(N _ W.ma).2.1
  have nL8 :(358 :Addr) ≠ L :=(N _ h1).2.1
  refine useC (ch :=[358,K.a.l]) (env :=env) (deed_ok (news :=dropN 358 led) gh st (fun p hp => hN p (mem_dropN.mp hp).1) lv (stk_one F hf hkf) (fun b hb => by rw [eL] at hb; rw [List.mem_singleton.mp hb]; exact gL) ⟨ps0,(N _ h1).1,C0.ok F N fun p hp => hp⟩ g358 dropN_ne dm (ex _ q1) qI ql (ex _ q2) rI rl (ex _ q3) oI ol hu hsp k0 (by rw [eL]; exact fun h => nLa (List.mem_singleton.mp h)) R) hf F N (fun b hb => ?_) ?_
  · rcases List.mem_cons.mp hb with rfl | hb
    · exact ⟨(N _ h1).2.2,nL8⟩
    · rw [List.mem_singleton.mp hb]; exact ⟨(N _ W.ma).2.2,nLa⟩
  rintro r h' tk' ⟨⟨ps8,h8,hT8⟩,hTold,va',hl',hI'⟩ F' N'
  obtain ⟨R8,NR,hRc,C⟩ :_ :=TabOk.cov hT8 F'
  have kp :∀ p ∈ led,p.1 ∉ [358,K.a.l] → p ∈ (358,tabObj ps8) :: (K.a.l,listOf va'.toArray K.a.n) :: (dropL [358,K.a.l] led ++ R8) :=fun p hp n => List.mem_cons_of_mem _ (List.mem_cons_of_mem _ (List.mem_append_left _ (mem_dropL.mpr ⟨hp,n⟩)))
  have N9 :News g L h' ((358,tabObj ps8) :: (K.a.l,listOf va'.toArray K.a.n) :: (dropL [358,K.a.l] led ++ R8)) :=fun p hp => by
    rcases List.mem_cons.mp hp with rfl | hp
    · exact ⟨h8,(N _ h1).2⟩
    · rcases List.mem_cons.mp hp with rfl | hp
      · exact ⟨hl',(N _ W.ma).2⟩
      · rcases List.mem_append.mp hp with hp | hp
        · exact N' p hp
        · exact NR p hp
  have ne :∀ z :Nat,z ≠ 358 → z ≠ K.a.l → z ∉ [358,K.a.l] :=fun z h1 h2 q => (List.mem_cons.mp q).elim h1 fun q => h2 (List.mem_singleton.mp q)
  refine kk r h' tk' _ va' hTold F' N9 (W.turn N ok [358,K.a.l] (fun x hx => ?_) kp (List.mem_cons_of_mem _ List.mem_cons_self) (kp _ W.mb (ne _ ok.b8 (Ne.symm ok.ab))) (kp _ W.mf (ne _ ok.f8 (Ne.symm ok.af))) (W.celH kp fun x d hx => ne d (ok.c8 d (cells_place hx).1 (cells_place hx).2) (ok.ca d (cells_place hx).1 (cells_place hx).2)) (.inr ⟨ps8,List.mem_cons_self,C.mono fun p hp => List.mem_cons_of_mem _ (List.mem_cons_of_mem _ (List.mem_append_right _ hp))⟩) (.inl (ne _ (by decide) (Ne.symm ok.a0)))) hI'
  rcases List.mem_cons.mp hx with rfl | hx
  · exact m8
  · rw [List.mem_singleton.mp hx]; exact nl
theorem LW.deedB {u kind sp :Int} {t tk ts :Tok} {l l2 l3 n n2 n3 :Addr} {ws us os :List Value} {ps xs oc D :List Int} {T :Told} {D' :List Int} {Q :Value → Shared → Prop} (W :LW w.params K g k tf va vb cm X led) (ok :K.Ok) (F :Fr g L s.heap m) (N :News g L s.heap led) (gh :GH w mg mb G) (st :Stay G s.heap) (sg :Stay G g) (lv :Lv dp un 20)
    (hf :env.frame = some L) (hkf :env.scope.kind = .function) (gL :G.get? L = none) (g358 :G.get? 358 = none) (iB :IntsAre vb D) (hD :D.length = 1408)
    (q1 :(l,listOf ws.toArray n) ∈ X) (qI :IntsAre ws ps) (ql :ps.length = 11) (q2 :(l2,listOf us.toArray n2) ∈ X) (rI :IntsAre us xs) (rl :xs.length = 11) (q3 :(l3,listOf os.toArray n3) ∈ X) (oI :IntsAre os oc) (ol :oc.length = 32)
    (hu :0 ≤ u ∧ u < 2) (hsp :0 ≤ sp ∧ sp < 140) (k0 :0 ≤ kind) (R :DeedRel D u kind ps xs sp oc T D')
    (kk :∀ r h' tk' led' vb',IsTold T r → Fr g L h' m → News g L h' led' → LW w.params K g k tf va vb' cm X led' → IntsAre vb' D' → Q r { s with heap :=h',toks :=tk' }) :
    wpAny (model PG w) (AR dp un (some [env]) gd) (call (.ref 363) [.ref K.b.d,.int u t,.int kind tk,.ref l,.ref l2,.int sp ts,.ref l3]) Q E s :=by
  obtain ⟨ps0,h1,C0⟩ :_ :=W.t8
  have hN :=HN.of N sg
  have nl :(K.b.l :Nat) ∈ mutP K :=by simp [mutP]
  have m8 :(358 :Nat) ∈ mutP K :=by simp [mutP]
  have fx :∀ p ∈ fixL w.params K,p.1 ≠ 358 :=fun p hp e => ok.fx _ p hp (by have e :p.1 = (358 :Nat) :=e; rw [e]; exact m8)
  have l8 :(K.b.l :Nat) ≠ 358 :=ok.b8
  have ex :∀ p ∈ X,p ∈ dropN 358 led :=fun p hp => mem_dropN.mpr ⟨(W.ex p hp).1,fun e => (W.ex p hp).2 (by have e :p.1 = (358 :Nat) :=e; rw [e]; exact m8)⟩
  have dm :=(W.db iB hD).drop (x :=358) (fx (K.b.d,instObj 53 K.b.dd) (by simp [fixL])) (fx (K.b.dd,dictOf (diskD w.params K.b) 7) (by simp [fixL])) (fx (K.b.gl,listOf [].toArray K.b.gn) (by simp [fixL])) l8
  have eL :frs [env] = [L] :=by simp [frs,hf]
  have nLa :K.b.l ≠ L :=(N _ W.mb).2.1
  have nL8 :(358 :Addr) ≠ L :=(N _ h1).2.1
  refine useC (ch :=[358,K.b.l]) (env :=env) (deed_ok (news :=dropN 358 led) gh st (fun p hp => hN p (mem_dropN.mp hp).1) lv (stk_one F hf hkf) (fun b hb => by rw [eL] at hb; rw [List.mem_singleton.mp hb]; exact gL) ⟨ps0,(N _ h1).1,C0.ok F N fun p hp => hp⟩ g358 dropN_ne dm (ex _ q1) qI ql (ex _ q2) rI rl (ex _ q3) oI ol hu hsp k0 (by rw [eL]; exact fun h => nLa (List.mem_singleton.mp h)) R) hf F N (fun b hb => ?_) ?_
  · rcases List.mem_cons.mp hb with rfl | hb
    · exact ⟨(N _ h1).2.2,nL8⟩
    · rw [List.mem_singleton.mp hb]; exact ⟨(N _ W.mb).2.2,nLa⟩
  rintro r h' tk' ⟨⟨ps8,h8,hT8⟩,hTold,vb',hl',hI'⟩ F' N'
  obtain ⟨R8,NR,hRc,C⟩ :_ :=TabOk.cov hT8 F'
  have kp :∀ p ∈ led,p.1 ∉ [358,K.b.l] → p ∈ (358,tabObj ps8) :: (K.b.l,listOf vb'.toArray K.b.n) :: (dropL [358,K.b.l] led ++ R8) :=fun p hp n => List.mem_cons_of_mem _ (List.mem_cons_of_mem _ (List.mem_append_left _ (mem_dropL.mpr ⟨hp,n⟩)))
  have N9 :News g L h' ((358,tabObj ps8) :: (K.b.l,listOf vb'.toArray K.b.n) :: (dropL [358,K.b.l] led ++ R8)) :=fun p hp => by
    rcases List.mem_cons.mp hp with rfl | hp
    · exact ⟨h8,(N _ h1).2⟩
    · rcases List.mem_cons.mp hp with rfl | hp
      · exact ⟨hl',(N _ W.mb).2⟩
      · rcases List.mem_append.mp hp with hp | hp
        · exact N' p hp
        · exact NR p hp
  have ne :∀ z :Nat,z ≠ 358 → z ≠ K.b.l → z ∉ [358,K.b.l] :=fun z h1 h2 q => (List.mem_cons.mp q).elim h1 fun q => h2 (List.mem_singleton.mp q)
  refine kk r h' tk' _ vb' hTold F' N9 (W.turn N ok [358,K.b.l] (fun x hx => ?_) kp (kp _ W.ma (ne _ ok.a8 ok.ab)) (List.mem_cons_of_mem _ List.mem_cons_self) (kp _ W.mf (ne _ ok.f8 (Ne.symm ok.bf))) (W.celH kp fun x d hx => ne d (ok.c8 d (cells_place hx).1 (cells_place hx).2) (ok.cb d (cells_place hx).1 (cells_place hx).2)) (.inr ⟨ps8,List.mem_cons_self,C.mono fun p hp => List.mem_cons_of_mem _ (List.mem_cons_of_mem _ (List.mem_append_right _ hp))⟩) (.inl (ne _ (by decide) (Ne.symm ok.b0)))) hI'
  rcases List.mem_cons.mp hx with rfl | hx
  · exact m8
  · rw [List.mem_singleton.mp hx]; exact nl
theorem LW.lam {cn :Str} {cs scope :Scope} {a :Addr} {ccd :Value} {cl clos :List (Str × Addr)} {params :Arguments} {body :PySem.Expr} {pos :Pos} {loose :List Str} {mean :ExcName → Option Value} {Q :Value → Shared → Prop} (W :LW w.params K g k tf va vb cm X led) (ok :K.Ok) (F :Fr g L s.heap m) (N :News g L s.heap led) (T :Top topProg loose mean mg mb g) (hX :(Mine.hd.heap_39 w.params).In g)
    (hcd :ccd = .ref 372) (hq :cn ++ ".<locals>." ++ "<lambda>" = lawQ) (hcl :closureFor scope (envX cn cs L a ccd cl) = pure clos) (hdef :defaultsOf params (envX cn cs L a ccd cl) = ([],[]))
    (kk :∀ f c' ctv h' tk led',Fr g L h' m → News g L h' led' → LW w.params K g k tf va vb cm X led' → (∀ b o,s.heap.get? b = some o → b ≠ 370 → h'.get? b = some o) → (∀ p ∈ led,p.1 ≠ 370 → p ∈ led') →
      (f,kla_obj "<lambda>" lawQ params body scope clos ((mg "__name__").getD .none) c' ctv) ∈ led' → h'.CodeRec (.ref c') lawQ → (∀ q ∈ led,q.1 ≠ f) → Q (.ref f) { s with heap :=h',toks :=tk }) :
    wpAny (model PG w) (AR dp un fr gd) (eval (.Lambda params body scope pos) (envX cn cs L a ccd cl)) Q E s :=by
  obtain ⟨ps0,h1,C0⟩ :_ :=W.t0
  have nL0 :(370 :Addr) ≠ L :=(N _ h1).2.1
  have g0 :=(N _ h1).2.2
  refine make_lam (c :=372) (P :=370) F T (code372 hX) hcd (N _ h1).1 (hq ▸ C0.ok F N fun p hp => hp) g0 hcl hdef ?_
  intros f c' ctv ps' h' tk hx hP' hT' ho hrec hfn
  rw [hq] at hT' ho hrec
  have F' :=frB F hx g0 (Ne.symm nL0)
  obtain ⟨R0,NR,hRc,C⟩ :_ :=TabOk.cov hT' F'
  have nf :∀ q ∈ led,q.1 ≠ f :=fun q hq e => by
    have z :=(N q hq).1
    rw [e] at z
    have hfn :s.heap.get? f = none :=hfn
    rw [hfn] at z; cases z
  have kp :∀ p ∈ led,p.1 ∉ [370] → p ∈ (f,kla_obj "<lambda>" lawQ params body scope clos ((mg "__name__").getD .none) c' ctv) :: (370,tabObj ps') :: (dropN 370 led ++ R0) :=fun p hp n => List.mem_cons_of_mem _ (List.mem_cons_of_mem _ (List.mem_append_left _ (mem_dropN.mpr ⟨hp,fun e => n (List.mem_singleton.mpr e)⟩)))
  have gf :g.get? f = none :=by
    cases q :g.get? f with
    | none => rfl
    | some o => have :=F.keep _ _ q; rw [hfn] at this; cases this
  have fL :f ≠ L :=fun e => by
    obtain ⟨o,es,ep,hL,_⟩ :_ :=F.ns
    rw [← e,hfn] at hL; cases hL
  have N9 :News g L h' ((f,kla_obj "<lambda>" lawQ params body scope clos ((mg "__name__").getD .none) c' ctv) :: (370,tabObj ps') :: (dropN 370 led ++ R0)) :=fun p hp => by
    rcases List.mem_cons.mp hp with rfl | hp
    · exact ⟨ho,fL,gf⟩
    · rcases List.mem_cons.mp hp with rfl | hp
      · exact ⟨hP',nL0,g0⟩
      · rcases List.mem_append.mp hp with hp | hp
        · obtain ⟨hp,ne⟩ :_ :=mem_dropN.mp hp
          exact ⟨hx _ _ ne (N p hp).1,(N p hp).2⟩
        · exact NR p hp
  have ne :∀ z :Nat,z ≠ 370 → z ∉ [370] :=fun z h q => h (List.mem_singleton.mp q)
  exact kk f c' ctv h' tk _ F' N9 (W.turn N ok [370] (fun x hx => by rw [List.mem_singleton.mp hx]; simp [mutP]) kp (kp _ W.ma (ne _ ok.a0)) (kp _ W.mb (ne _ ok.b0)) (kp _ W.mf (ne _ ok.f0)) (W.celH kp fun x d hx => ne d (ok.c0 d (cells_place hx).1 (cells_place hx).2)) (.inl (ne _ (by decide)))
    (.inr ⟨ps',List.mem_cons_of_mem _ List.mem_cons_self,C.mono fun p hp => List.mem_cons_of_mem _ (List.mem_cons_of_mem _ (List.mem_append_right _ hp))⟩)) (fun b o e n => hx b o n e) (fun p hp n => kp p hp fun q => n (List.mem_singleton.mp q)) List.mem_cons_self hrec nf
theorem LW.told {f :Addr} {ob :Obj} {x :Option (List Int)} {Q :Value → Shared → Prop} (F :Fr g L s.heap m) (N :News g L s.heap led) (gh :GH w mg mb G) (st :Stay G s.heap) (lv :Lv dp un 3) (hf :env.frame = some L) (hkf :env.scope.kind = .function) (gL :G.get? L = none) (ho :(f,ob) ∈ led) (hfd :∃ fd,ob.data = .func fd)
    (spec :∀ env₂ h₁ tk,Inner s G [env] env₂ h₁ → wpAny (model PG w) (AR (dp + 1) (un + 3) (some (env₂ :: [env])) gd) (call (.ref f) []) (ChG { s with heap :=h₁,toks :=tk } (env₂ :: [env]) [] fun r h' => ∃ tl,ReadV x r tl ∧ ∀ p ∈ tl,h'.get? p.1 = some p.2 ∧ s.heap.get? p.1 = none) (RaiseW { s with heap :=h₁,toks :=tk } (env₂ :: [env]) fun _ => False) { s with heap :=h₁,toks :=tk })
    (kk :∀ r tl h' tk',ReadV x r tl → Fr g L h' m → News g L h' (tl ++ led) → (∀ p ∈ tl,∀ q ∈ led,q.1 ≠ p.1) → Q r { s with heap :=h',toks :=tk' }) :
    wpAny (model PG w) (AR dp un (some [env]) gd) (call (.ref 356) [.ref f]) Q E s :=by
  have eL :frs [env] = [L] :=by simp [frs,hf]
  refine useC (ch :=[]) (env :=env) (P :=fun r h' => ∃ tl,ReadV x r tl ∧ ∀ p ∈ tl,h'.get? p.1 = some p.2 ∧ s.heap.get? p.1 = none) (wpAny_mono (told_any (fl :=[env]) gh st lv (stk_one F hf hkf) (fun b hb => by rw [eL] at hb; rw [List.mem_singleton.mp hb]; exact gL) (N _ ho).1 hfd spec) (fun r s' h => ?_) fun _ _ e => e) hf F N (fun _ h => nomatch h) ?_
  · rcases h with h | ⟨_,_,hW,_⟩
    · exact h
    · exact hW.elim
  rintro r h' tk' ⟨tl,hR,ht⟩ F' N'
  have N' :News g L h' led :=News.sub N' fun p hp => mem_dropL.mpr ⟨hp,fun h => nomatch h⟩
  refine kk r tl h' tk' hR F' (fun p hp => ?_) fun p hp q hq e => ?_
  · rcases List.mem_append.mp hp with hp | hp
    · obtain ⟨h1,h2⟩ :_ :=ht p hp
      refine ⟨h1,fun e => ?_,?_⟩
      · obtain ⟨o,es,ep,hL,_⟩ :_ :=F.ns
        rw [← e,h2] at hL; cases hL
      · cases z :g.get? p.1 with
        | none => rfl
        | some o => have :=F.keep _ _ z; rw [h2] at this; cases this
    · exact N' p hp
  · have z :=(N q hq).1
    rw [e,(ht p hp).2] at z; cases z
end
end
end
section
section
section
variable {prog :Program} {w :World} {A :Around} {E :Value → Shared → Prop} {s :Shared} {env :Env} {h₀ :Heap} {x :Str} {body :List Stmt} {Q :Flow → Shared → Prop}
noncomputable def TurnE (h₀ :Heap) (L :Addr) (s₁ :Shared) (I :Addr) (it :Obj) (J :(Str → Option Value) → List (Addr × Obj) → Prop) (Q :Flow → Shared → Prop) (f :Flow) (s₂ :Shared) :Prop :=
  match f with
  | .ret v => Q (.ret v) s₂
  | .brk => Q .next s₂
  | _ => ∃ h' tk m' nw,s₂ = { s₁ with heap :=h',toks :=tk } ∧ Fr h₀ L h' m' ∧ News h₀ L h' ((I,it) :: nw) ∧ (∀ p ∈ nw,p.1 ≠ I) ∧ J m' nw
theorem range_inv2 {I :Addr} {n :Nat} {a :Int} (J :Nat → (Str → Option Value) → List (Addr × Obj) → Prop)
    (step :∀ i m₁ nw t h tk,i < n → J i m₁ nw → Fr h₀ env.locals h (fun y => if y = x then some (.int (a + (i :Int)) t) else m₁ y) → News h₀ env.locals h ((I,itR (a + ((i + 1 :Nat) :Int)) ((n :Int) - ((i + 1 :Nat) :Int))) :: nw) →
      wpAny (model prog w) A (execs body env) (TurnE h₀ env.locals { s with heap :=h,toks :=tk } I (itR (a + ((i + 1 :Nat) :Int)) ((n :Int) - ((i + 1 :Nat) :Int))) (J (i + 1)) Q) E { s with heap :=h,toks :=tk })
    (fin :∀ m₁ nw h tk,J n m₁ nw → Fr h₀ env.locals h m₁ → News h₀ env.locals h nw → Q .next { s with heap :=h,toks :=tk })
    {m :Str → Option Value} {news :List (Addr × Obj)} (h0 :J 0 m news) :RangeRest prog w A E h₀ env x body Q s I a n n 0 m news :=by
  have go :∀ k i m nw,i + k = n → J i m nw → RangeRest prog w A E h₀ env x body Q s I a n k i m nw :=by
    intros k
    induction k with
    | zero =>
      intros i m nw e hJ
      have e' :i = n :=e
      subst e'
      exact fun h tk F N => fin m nw h tk hJ F N
    | succ k ih =>
      intros i m nw e hJ t h tk F N
      refine wpAny_mono (step i m nw t h tk (by omega) hJ F N) (fun f s₃ z => ?_) fun _ _ e => e
      have fin' :∀ s₃,(∃ h' tk' m' nw',s₃ = { ({ s with heap :=h,toks :=tk } :Shared) with heap :=h',toks :=tk' } ∧ Fr h₀ env.locals h' m' ∧ News h₀ env.locals h' ((I,itR (a + ((i + 1 :Nat) :Int)) ((n :Int) - ((i + 1 :Nat) :Int))) :: nw') ∧ (∀ p ∈ nw',p.1 ≠ I) ∧ J (i + 1) m' nw') →
          UnrEnd h₀ env.locals { s with heap :=h,toks :=tk } I (itR (a + ((i + 1 :Nat) :Int)) ((n :Int) - ((i + 1 :Nat) :Int))) (RangeRest prog w A E h₀ env x body Q s I a n k (i + 1)) s₃ :=by
        rintro s₃ ⟨h',tk',m',nw',e1,F',N',ne,hJ'⟩
        exact ⟨h',tk',m',nw',e1,F',N',ne,ih (i + 1) m' nw' (by omega) hJ'⟩
      cases f with
      | ret v => exact z
      | brk => exact z
      | next => exact fin' _ z
      | cont => exact fin' _ z
  exact go n 0 m news (by omega) h0
end
theorem noCode_iter {a b :Int} :NoCode (itR a b) :=fun q ⟨_,_,h,hv⟩ => by cases h; simp [rawInt] at hv
section
variable {P :Params} {K :LK} {g h :Heap} {L :Nat} {k :Int} {tf :Tok} {va vb :List Value} {cm :Str → Option Value} {X led :List (Addr × Obj)}
theorem LW.drop {I :Nat} {it :Obj} (W :LW P K g k tf va vb cm X led) (N :News g L h led) (ok :K.Ok) (hI :K.b.l < I) (hm :(I,it) ∈ led) (hc :NoCode it) :LW P K g k tf va vb cm [] (dropN I led) :=by
  have H :∀ p ∈ led,p.1 ≠ I → p ∈ dropN I led :=fun p hp n => mem_dropN.mpr ⟨hp,n⟩
  have ne :∀ z :Nat,z ∈ mutP K → z ≠ I :=fun z hz => Nat.ne_of_lt (Nat.lt_of_le_of_lt (ok.up z hz) hI)
  have cov :∀ {q :Str} {ps :Array Value},TabCov q ps g led → TabCov q ps g (dropN I led) :=fun C => cov_keep (ch :=[I]) C N (fun x hx => by rw [List.mem_singleton.mp hx]; exact ⟨it,hm,hc⟩) fun p hp n => H p hp fun e => n (List.mem_singleton.mpr e)
  obtain ⟨p8,t81,t82⟩ :_ :=W.t8
  obtain ⟨p0,t01,t02⟩ :_ :=W.t0
  refine ⟨fun p hp => H p (W.fix p hp) (Nat.ne_of_lt (Nat.lt_of_le_of_lt (ok.uf _ p hp) hI)),H _ W.ma (ne _ (by simp [mutP])),H _ W.mb (ne _ (by simp [mutP])),H _ W.mf (ne _ (by simp [mutP])),fun x d hx => ?_,⟨p8,H _ t81 (ne _ (by simp [mutP])),cov t82⟩,⟨p0,H _ t01 (ne _ (by simp [mutP])),cov t02⟩,fun _ h => nomatch h⟩
  obtain ⟨o,h1,h2⟩ :_ :=W.cel x d hx
  exact ⟨o,H _ h1 (ne d (cells_mut hx)),h2⟩
theorem LW.off {I :Nat} {it :Obj} (ok :K.Ok) (hI :K.b.l < I) :I ∉ mutP K :=fun h => Nat.lt_irrefl _ (Nat.lt_of_lt_of_le hI (ok.up I h))
end
section
variable {prog :Program} {w :World} {A :Around} {E :Value → Shared → Prop} {s :Shared} {Q :Value → Shared → Prop}
theorem told_ne {T :Told} {r r' :Value} (h :IsTold T r) (h' :IsTold T r') (k :Q (.bool false) s) :wpAny (model prog w) A (compareOp .NotEq r r') Q E s :=by
  cases T with
  | int n =>
    obtain ⟨t,rfl⟩ :_ :=h
    obtain ⟨t',rfl⟩ :_ :=h'
    refine ne_int ?_
    have :((n :Int) != (n :Int)) = false :=by simp
    rw [this]
    exact k
  | none =>
    have h :r = .none :=h
    have h' :r' = .none :=h'
    subst h
    subst h'
    exact EqNone.ne_none_none k
  | word x =>
    obtain ⟨t,rfl⟩ :_ :=h
    obtain ⟨t',rfl⟩ :_ :=h'
    refine ne_str ?_
    have :(x != x) = false :=by simp
    rw [this]
    exact k
theorem told_is {T :Told} {r :Value} (h :IsTold T r) (k1 :T = .none → Q (.bool true) s) (k2 :T ≠ .none → Q (.bool false) s) :wpAny (model prog w) A (compareOp .Is r .none) Q E s :=by
  cases T with
  | int n =>
    obtain ⟨t,rfl⟩ :_ :=h
    exact wpAny_is_other rfl (fun h => by cases h) (k2 fun h => by cases h)
  | none =>
    have h :r = .none :=h
    subst h
    exact wpAny_is_self rfl (k1 rfl)
  | word x =>
    obtain ⟨t,rfl⟩ :_ :=h
    exact wpAny_is_other rfl (fun h => by cases h) (k2 fun h => by cases h)
theorem told_isnt {r :Value} (h :IsTold .none r) (k :Q (.bool false) s) :wpAny (model prog w) A (compareOp .IsNot r .none) Q E s :=by
  have h :r = .none :=h
  subst h
  exact wpAny_isNot_self rfl k
theorem read_ne {g :Heap} {L :Addr} {led tl tl' :List (Addr × Obj)} {x :Option (List Int)} {r r' :Value} (h :ReadV x r tl) (h' :ReadV x r' tl') (N :News g L s.heap led) (h1 :∀ p ∈ tl,p ∈ led) (h2 :∀ p ∈ tl',p ∈ led) (hu :A.units + 64 < cLine) (k :Q (.bool false) s) :wpAny (model prog w) A (compareOp .NotEq r r') Q E s :=by
  cases x with
  | none =>
    obtain ⟨_,rfl⟩ :_ :=h
    obtain ⟨_,rfl⟩ :_ :=h'
    exact EqNone.ne_none_none k
  | some os =>
    obtain ⟨x,ws,n,rfl,rfl,hI⟩ :_ :=h
    obtain ⟨x',ws',n',rfl,rfl,hI'⟩ :_ :=h'
    refine ke_ne_ints ⟨_,(N _ (h1 _ List.mem_cons_self)).1,rfl,_,rfl⟩ ⟨_,(N _ (h2 _ List.mem_cons_self)).1,rfl,_,rfl⟩ hI hI' hu ?_
    rw [decide_eq_true rfl]
    exact k
end
end
end
section
section
section
variable {w :World} {dp un :Nat} {fr :Option (List Env)} {gd :Option (List Code)} {s :Shared} {mg mb :Str → Option Value} {G g :Heap} {A :Around} {E :Value → Shared → Prop}
  {K :LK} {k :Int} {tf :Tok} {va vb :List Value} {cm m :Str → Option Value} {X led :List (Addr × Obj)} {L :Addr}
theorem LW.gain {P :Params} {h :Heap} {tl :List (Addr × Obj)} (W :LW P K g k tf va vb cm X led) (ok :K.Ok) (N :News g L h (tl ++ led)) (hD :∀ p ∈ tl,∀ q ∈ led,q.1 ≠ p.1) :LW P K g k tf va vb cm (tl ++ X) (tl ++ led) :=
  LW.more (X' :=tl) (W.mono (News.sub N fun p hp => List.mem_append_right _ hp) ok fun p hp => List.mem_append_right _ hp) fun p hp => ⟨List.mem_append_left _ hp,W.out (hD p hp)⟩
theorem LW.names {Q :Value → Shared → Prop} (W :LW w.params K g k tf va vb cm X led) (ok :K.Ok) (F :Fr g L s.heap m) (N :News g L s.heap led) (gh :GH w mg mb G) (st :Stay G s.heap) (sg :Stay G g) (lv :Lv dp un 1)
    (kk :∀ (x a b c n na nb nc :Nat) (wa wb wc :List Value) h' tk' led',IntsAre wa nmA → IntsAre wb nmB → IntsAre wc nmC → Fr g L h' m → News g L h' led' →
      LW w.params K g k tf va vb cm ((x,listOf [Value.ref a,.ref b,.ref c].toArray n) :: (a,listOf wa.toArray na) :: (b,listOf wb.toArray nb) :: (c,listOf wc.toArray nc) :: X) led' → Q (.ref x) { s with heap :=h',toks :=tk' }) :
    wpAny (model PG w) (AR dp un fr gd) (call (.ref 349) []) Q E s :=by
  refine useG (law_names_ok gh st (HN.of N sg) lv) F N ?_
  rintro r tl h' tk' ⟨x,a,b,c,n,na,nb,nc,wa,wb,wc,rfl,rfl,i1,i2,i3⟩ F' N' lt
  exact kk x a b c n na nb nc wa wb wc h' tk' _ i1 i2 i3 F' N' (W.gain ok N' lt)
theorem LW.item {value slice :PySem.Expr} {x a b c n na nb nc :Nat} {wa wb wc :List Value} {j :Int} {u :Tok} {Q :Value → Shared → Prop}
    (W :LW w.params K g k tf va vb cm ((x,listOf [Value.ref a,.ref b,.ref c].toArray n) :: (a,listOf wa.toArray na) :: (b,listOf wb.toArray nb) :: (c,listOf wc.toArray nc) :: X) led) (N :News g L s.heap led) (iA :IntsAre wa nmA) (iB :IntsAre wb nmB) (iC :IntsAre wc nmC) (h0 :0 ≤ j) (h1 :j < 3)
    (kk :∀ (y k' :Nat) ys,IntsAre ys (nms.getD j.toNat []) → LW w.params K g k tf va vb cm ((y,listOf ys.toArray k') :: X) led → Q (.ref y) s)
    (hs :subscripted slice false (.ref x) (.int j u) = operate [.ref x,.int j u] (getItem (.ref x) (.int j u)) :=by with_unfolding_all rfl) :
    wpAny (model PG w) A (subscriptTail value slice (.ref x) (.int j u)) Q E s :=by
  have hx :=(W.ex _ List.mem_cons_self).1
  have o :j = 0 ∨ j = 1 ∨ j = 2 :=by omega
  rcases o with rfl | rfl | rfl
  · exact item_listR (items :=[Value.ref a,.ref b,.ref c].toArray) (x :=.ref a) ⟨_,(N _ hx).1,rfl,_,rfl⟩ (by decide) (by decide) rfl (kk _ _ _ iA (W.less fun p hp => by
      rcases List.mem_cons.mp hp with rfl | hp
      · exact List.mem_cons_of_mem _ List.mem_cons_self
      · exact List.mem_cons_of_mem _ (List.mem_cons_of_mem _ (List.mem_cons_of_mem _ (List.mem_cons_of_mem _ hp))))) hs
  · exact item_listR (items :=[Value.ref a,.ref b,.ref c].toArray) (x :=.ref b) ⟨_,(N _ hx).1,rfl,_,rfl⟩ (by decide) (by decide) rfl (kk _ _ _ iB (W.less fun p hp => by
      rcases List.mem_cons.mp hp with rfl | hp
      · exact List.mem_cons_of_mem _ (List.mem_cons_of_mem _ List.mem_cons_self)
      · exact List.mem_cons_of_mem _ (List.mem_cons_of_mem _ (List.mem_cons_of_mem _ (List.mem_cons_of_mem _ hp))))) hs
  · exact item_listR (items :=[Value.ref a,.ref b,.ref c].toArray) (x :=.ref c) ⟨_,(N _ hx).1,rfl,_,rfl⟩ (by decide) (by decide) rfl (kk _ _ _ iC (W.less fun p hp => by
      rcases List.mem_cons.mp hp with rfl | hp
      · exact List.mem_cons_of_mem _ (List.mem_cons_of_mem _ (List.mem_cons_of_mem _ List.mem_cons_self))
      · exact List.mem_cons_of_mem _ (List.mem_cons_of_mem _ (List.mem_cons_of_mem _ (List.mem_cons_of_mem _ hp))))) hs
theorem LW.ord {value slice :PySem.Expr} {ord :List Int} {j :Int} {u :Tok} {Q :Value → Shared → Prop} (W :LW w.params K g k tf va vb cm X led) (N :News g L s.heap led) (hO :IntsAre K.os ord) (hl :ord.length = 3) (h0 :0 ≤ j) (h1 :j < 3) (kk :∀ t,Q (.int (ord.getD j.toNat 0) t) s)
    (hs :subscripted slice false (.ref K.lo) (.int j u) = operate [.ref K.lo,.int j u] (getItem (.ref K.lo) (.int j u)) :=by with_unfolding_all rfl) (hg :∀ r,letTemporaryGo value (.ref K.lo) r = pure () :=by intros _; with_unfolding_all rfl) :
    wpAny (model PG w) A (subscriptTail value slice (.ref K.lo) (.int j u)) Q E s :=
  item_list_ints (News.isList N (W.fix (K.lo,listOf K.os.toArray K.no) (by simp [fixL]))) hO h0 (by omega) (by omega) kk hs hg
theorem LW.four {value slice :PySem.Expr} {T n :Nat} {x0 x1 x2 x3 y :Value} {j :Int} {u :Tok} {Q :Value → Shared → Prop} (W :LW w.params K g k tf va vb cm X led) (N :News g L s.heap led) (hm :(T,listOf [x0,x1,x2,x3].toArray n) ∈ X) (h0 :0 ≤ j) (h1 :j < 4) (hy :[x0,x1,x2,x3][j.toNat]? = some y) (kk :Q y s)
    (hs :subscripted slice false (.ref T) (.int j u) = operate [.ref T,.int j u] (getItem (.ref T) (.int j u)) :=by with_unfolding_all rfl) (hg :∀ r,letTemporaryGo value (.ref T) r = pure () :=by intros _; with_unfolding_all rfl) :
    wpAny (model PG w) A (subscriptTail value slice (.ref T) (.int j u)) Q E s :=
  item_listL (l :=[x0,x1,x2,x3]) ⟨_,(N _ (W.ex _ hm).1).1,rfl,_,rfl⟩ h0 (by omega) hy kk hs hg
theorem LW.exch {ord D :List Int} {tn :Bool} {Q :Value → Shared → Prop} (W :LW w.params K g k tf va vb cm X led) (ok :K.Ok) (F :Fr g L s.heap m) (N :News g L s.heap led) (gh :GH w mg mb G) (st :Stay G s.heap) (sg :Stay G g) (lv :Lv dp un 3) (iA :IntsAre va D) (hD :D.length = 1408) (hO :IntsAre K.os ord) (ql :ord.length = 3) (qo :∀ x ∈ ord,0 ≤ x ∧ x < 3)
    (kk :∀ (x n :Nat) ws h' tk' led',IntsAre ws (exL ord tn D 8) → Fr g L h' m → News g L h' led' → LW w.params K g k tf va vb cm ((x,listOf ws.toArray n) :: X) led' → Q (.ref x) { s with heap :=h',toks :=tk' }) :
    wpAny (model PG w) (AR dp un fr gd) (call (.ref 368) [.ref K.a.d,.ref K.lo,.bool tn]) Q E s :=by
  refine useG (exchanged_ok gh st (HN.of N sg) lv (W.da iA hD) (W.fix (K.lo,listOf K.os.toArray K.no) (by simp [fixL])) hO ql qo) F N ?_
  rintro r tl h' tk' ⟨x,ws,n,rfl,rfl,hI⟩ F' N' lt
  exact kk x n ws h' tk' _ hI F' N' (W.gain ok N' lt)
end
end
end
section
section
theorem kw125 :True :=by
  (k_with "msetItem ref int" => (k_extra "r8"))
  (k_with "mRangeRest" => (refine Wait.h ?_))
  (k_with "mexec For Tuple Call" => (k_extra "r6"))
  trivial
theorem kw126 :True :=by
  (k_with "mcall ref" => (refine Wait.h ?_))
  (k_with "msubscriptTail Name Constant ref int" => (refine Wait.h ?_))
  (k_with "meval Name" => (k_extra "r3"))
  trivial
noncomputable abbrev noArgs :Arguments :={ posonlyargs :=[],args :=[],vararg :=none,kwonlyargs :=[],kw_defaults :=[],kwarg :=none,defaults :=[] }
noncomputable abbrev scopeA :Scope :={ kind :=.function,names :=[(Str.ofString "disk",.free),(Str.ofString "raws",.free),(Str.ofString "spot",.free),(Str.ofString "user",.free),(Str.ofString "read_at",.globalImplicit)],isGenerator :=false,isCoroutine :=false }
noncomputable abbrev bodyA (p1 p2 p3 p4 p5 p6 p7 p8 :Pos) :PySem.Expr :=.Call (.Name (Str.ofString "read_at") p1) [.Name (Str.ofString "disk") p2,.Name (Str.ofString "user") p3,.Subscript (.Name (Str.ofString "raws") p4) (.Constant (.int 0) 0 p5) p6,.Name (Str.ofString "spot") p7] [] p8
section
variable (w dp un gd s mg mb G news a vs D)
noncomputable abbrev lam_readA_Q (p1 p2 p3 p4 p5 p6 p7 p8 :Pos) (pm ctv :Value) (c' f c1 c2 c3 c4 lr r0 r1 r2 r3 nr n :Nat) (o1 o2 o3 o4 :Obj) (fl :List Env) (u i :Int) (t t' :Tok) (ws :List Value) (ps :List Int) (h0 :Heap) :Prop :=∀ (gh :GH w mg mb G) (st :Stay G s.heap) (lv :Lv dp un 12) (S :Stk s.heap fl) (hG :∀ a ∈ frs fl,G.get? a = none) (ho :s.heap.get? f = some (kla_obj "<lambda>" lawQ noArgs (bodyA p1 p2 p3 p4 p5 p6 p7 p8) scopeA [(Str.ofString "user",c2),(Str.ofString "spot",c4),(Str.ofString "raws",c3),(Str.ofString "disk",c1)] pm c' ctv)) (hrec :s.heap.CodeRec (.ref c') lawQ) (k1 :s.heap.get? c1 = some o1) (d1 :o1.data = .cell (some (.ref a.d))) (k2 :s.heap.get? c2 = some o2) (d2 :o2.data = .cell (some (.int u t))) (k3 :s.heap.get? c3 = some o3) (d3 :o3.data = .cell (some (.ref lr))) (k4 :s.heap.get? c4 = some o4) (d4 :o4.data = .cell (some (.int i t'))) (hr :s.heap.get? lr = some (listOf [Value.ref r0,.ref r1,.ref r2,.ref r3].toArray nr)) (hn :HN G s.heap news) (dm :DM w.params a vs D news) (q1 :(r0,listOf ws.toArray n) ∈ news) (qI :IntsAre ws ps) (ql :ps.length = 11) (hu :u ≠ 229) (i0 :0 ≤ i) (i1 :i < 140) (hm :∀ row,firstX (findF D u ps) (i / 64) = some row → ∀ k :Nat,0 ≤ row.2.map.getD k 0 ∧ row.2.map.getD k 0 < 11) (kp :∀ b o,h0.get? b = some o → s.heap.get? b = some o),wpAny (model rw_tg0048_01.row.prog w) (AR dp un (some fl) gd) (call (.ref f) []) (ChG s fl [] fun r h' => ∃ tl,ReadV (readF D u ps i) r tl ∧ ∀ p ∈ tl,h'.get? p.1 = some p.2 ∧ h0.get? p.1 = none) (RaiseW s fl fun _ => False) s
end
theorem lam_readA_L :∀ w dp un gd s mg mb G news a vs D p1 p2 p3 p4 p5 p6 p7 p8 pm ctv c' f c1 c2 c3 c4 lr r0 r1 r2 r3 nr n o1 o2 o3 o4 fl u i t t' ws ps h0,lam_readA_Q w dp un gd s mg mb G news a vs D p1 p2 p3 p4 p5 p6 p7 p8 pm ctv c' f c1 c2 c3 c4 lr r0 r1 r2 r3 nr n o1 o2 o3 o4 fl u i t t' ws ps h0 :=by
  intro w dp un gd s mg mb G news a vs D p1 p2 p3 p4 p5 p6 p7 p8 pm ctv c' f c1 c2 c3 c4 lr r0 r1 r2 r3 nr n o1 o2 o3 o4 fl u i t t' ws ps h0
  delta lam_readA_Q
  intro gh st lv S hG ho hrec k1 d1 k2 d2 k3 d3 k4 d4 hr hn dm q1 qI ql hu i0 i1 hm kp
  refine wpAny_call (enterL [] gh st (fun _ h => nomatch h) (lv_room lv) ho hrec rfl ?_ rfl rfl rfl (by decide))
  intro g₄ L₄ h₄ tk₄ lo me F₄ X₄ T₄ sg₄ kp₄ bk₄ hL₄ st₄
  have gx :∀ b o,s.heap.get? b = some o → g₄.get? b = some o :=fun b o e => kp₄ b o e fun h => nomatch h
  replace k1 :=gx _ _ k1
  replace k2 :=gx _ _ k2
  replace k3 :=gx _ _ k3
  replace k4 :=gx _ _ k4
  have hr₄ :=gx _ _ hr
  dsimp only
  k_steps
  refine ⟨?_⟩
  refine item_listL (l :=[Value.ref r0,.ref r1,.ref r2,.ref r3]) (x :=.ref r0) ⟨_,F₄.keep _ _ hr₄,rfl,_,rfl⟩ (by decide) (by decide) rfl ?_ (by with_unfolding_all rfl) (by intro _; with_unfolding_all rfl)
  k_steps
  refine ⟨?_⟩
  have Iof₄ :∀ env' :Env,env'.scope.kind = .function → env'.frame = some L₄ → Inner s G fl env' h₄ :=fun env' e1 e2 => Inner.of st S hG st₄ e1 e2 hL₄ F₄.ns
  refine lam_post (Iof₄ _ rfl rfl) rfl (wpAny_mono (read_ok (dp :=dp + 1) (un :=un + 3) gh (fun b o e => st₄ _ _ (st _ _ e)) (fun p hp => ⟨st₄ _ _ (hn p hp).1,(hn p hp).2⟩) (lv_use lv (by decide :8 + 1 ≤ 12)) dm q1 qI ql hu i0 i1 hm) (fun r s' h => RetG.chg2 h fun b o e => st₄ _ _ (kp b o e)) fun _ _ x => x.elim)
theorem lam_readA {p1 p2 p3 p4 p5 p6 p7 p8 :Pos} {pm ctv :Value} {c' f c1 c2 c3 c4 lr r0 r1 r2 r3 nr n :Nat} {o1 o2 o3 o4 :Obj} {fl :List Env} {u i :Int} {t t' :Tok} {ws :List Value} {ps :List Int} {h0 :Heap} :lam_readA_Q w dp un gd s mg mb G news a vs D p1 p2 p3 p4 p5 p6 p7 p8 pm ctv c' f c1 c2 c3 c4 lr r0 r1 r2 r3 nr n o1 o2 o3 o4 fl u i t t' ws ps h0 :=lam_readA_L w dp un gd s mg mb G news a vs D p1 p2 p3 p4 p5 p6 p7 p8 pm ctv c' f c1 c2 c3 c4 lr r0 r1 r2 r3 nr n o1 o2 o3 o4 fl u i t t' ws ps h0
noncomputable abbrev scopeB :Scope :={ kind :=.function,names :=[(Str.ofString "its_user",.free),(Str.ofString "mate",.free),(Str.ofString "raws",.free),(Str.ofString "spot",.free),(Str.ofString "read_at",.globalImplicit)],isGenerator :=false,isCoroutine :=false }
noncomputable abbrev bodyB (p1 p2 p3 p4 p5 p6 p7 p8 :Pos) :PySem.Expr :=.Call (.Name (Str.ofString "read_at") p1) [.Name (Str.ofString "mate") p2,.Name (Str.ofString "its_user") p3,.Subscript (.Name (Str.ofString "raws") p4) (.Constant (.int 2) 0 p5) p6,.Name (Str.ofString "spot") p7] [] p8
section
variable (w dp un gd s mg mb G news a vs D)
noncomputable abbrev lam_readB_Q (p1 p2 p3 p4 p5 p6 p7 p8 :Pos) (pm ctv :Value) (c' f c1 c2 c3 c4 lr r0 r1 r2 r3 nr n :Nat) (o1 o2 o3 o4 :Obj) (fl :List Env) (u i :Int) (t t' :Tok) (ws :List Value) (ps :List Int) (h0 :Heap) :Prop :=∀ (gh :GH w mg mb G) (st :Stay G s.heap) (lv :Lv dp un 12) (S :Stk s.heap fl) (hG :∀ a ∈ frs fl,G.get? a = none) (ho :s.heap.get? f = some (kla_obj "<lambda>" lawQ noArgs (bodyB p1 p2 p3 p4 p5 p6 p7 p8) scopeB [(Str.ofString "spot",c4),(Str.ofString "raws",c3),(Str.ofString "mate",c1),(Str.ofString "its_user",c2)] pm c' ctv)) (hrec :s.heap.CodeRec (.ref c') lawQ) (k1 :s.heap.get? c1 = some o1) (d1 :o1.data = .cell (some (.ref a.d))) (k2 :s.heap.get? c2 = some o2) (d2 :o2.data = .cell (some (.int u t))) (k3 :s.heap.get? c3 = some o3) (d3 :o3.data = .cell (some (.ref lr))) (k4 :s.heap.get? c4 = some o4) (d4 :o4.data = .cell (some (.int i t'))) (hr :s.heap.get? lr = some (listOf [Value.ref r0,.ref r1,.ref r2,.ref r3].toArray nr)) (hn :HN G s.heap news) (dm :DM w.params a vs D news) (q1 :(r2,listOf ws.toArray n) ∈ news) (qI :IntsAre ws ps) (ql :ps.length = 11) (hu :u ≠ 229) (i0 :0 ≤ i) (i1 :i < 140) (hm :∀ row,firstX (findF D u ps) (i / 64) = some row → ∀ k :Nat,0 ≤ row.2.map.getD k 0 ∧ row.2.map.getD k 0 < 11) (kp :∀ b o,h0.get? b = some o → s.heap.get? b = some o),wpAny (model rw_tg0048_01.row.prog w) (AR dp un (some fl) gd) (call (.ref f) []) (ChG s fl [] fun r h' => ∃ tl,ReadV (readF D u ps i) r tl ∧ ∀ p ∈ tl,h'.get? p.1 = some p.2 ∧ h0.get? p.1 = none) (RaiseW s fl fun _ => False) s
end
theorem lam_readB_L :∀ w dp un gd s mg mb G news a vs D p1 p2 p3 p4 p5 p6 p7 p8 pm ctv c' f c1 c2 c3 c4 lr r0 r1 r2 r3 nr n o1 o2 o3 o4 fl u i t t' ws ps h0,lam_readB_Q w dp un gd s mg mb G news a vs D p1 p2 p3 p4 p5 p6 p7 p8 pm ctv c' f c1 c2 c3 c4 lr r0 r1 r2 r3 nr n o1 o2 o3 o4 fl u i t t' ws ps h0 :=by
  intro w dp un gd s mg mb G news a vs D p1 p2 p3 p4 p5 p6 p7 p8 pm ctv c' f c1 c2 c3 c4 lr r0 r1 r2 r3 nr n o1 o2 o3 o4 fl u i t t' ws ps h0
  delta lam_readB_Q
  intro gh st lv S hG ho hrec k1 d1 k2 d2 k3 d3 k4 d4 hr hn dm q1 qI ql hu i0 i1 hm kp
  refine wpAny_call (enterL [] gh st (fun _ h => nomatch h) (lv_room lv) ho hrec rfl ?_ rfl rfl rfl (by decide))
  intro g₄ L₄ h₄ tk₄ lo me F₄ X₄ T₄ sg₄ kp₄ bk₄ hL₄ st₄
  have gx :∀ b o,s.heap.get? b = some o → g₄.get? b = some o :=fun b o e => kp₄ b o e fun h => nomatch h
  replace k1 :=gx _ _ k1
  replace k2 :=gx _ _ k2
  replace k3 :=gx _ _ k3
  replace k4 :=gx _ _ k4
  have hr₄ :=gx _ _ hr
  dsimp only
  k_steps
  refine ⟨?_⟩
  refine item_listL (l :=[Value.ref r0,.ref r1,.ref r2,.ref r3]) (x :=.ref r2) ⟨_,F₄.keep _ _ hr₄,rfl,_,rfl⟩ (by decide) (by decide) rfl ?_ (by with_unfolding_all rfl) (by intro _; with_unfolding_all rfl)
  k_steps
  refine ⟨?_⟩
  have Iof₄ :∀ env' :Env,env'.scope.kind = .function → env'.frame = some L₄ → Inner s G fl env' h₄ :=fun env' e1 e2 => Inner.of st S hG st₄ e1 e2 hL₄ F₄.ns
  refine lam_post (Iof₄ _ rfl rfl) rfl (wpAny_mono (read_ok (dp :=dp + 1) (un :=un + 3) gh (fun b o e => st₄ _ _ (st _ _ e)) (fun p hp => ⟨st₄ _ _ (hn p hp).1,(hn p hp).2⟩) (lv_use lv (by decide :8 + 1 ≤ 12)) dm q1 qI ql hu i0 i1 hm) (fun r s' h => RetG.chg2 h fun b o e => st₄ _ _ (kp b o e)) fun _ _ x => x.elim)
theorem lam_readB {p1 p2 p3 p4 p5 p6 p7 p8 :Pos} {pm ctv :Value} {c' f c1 c2 c3 c4 lr r0 r1 r2 r3 nr n :Nat} {o1 o2 o3 o4 :Obj} {fl :List Env} {u i :Int} {t t' :Tok} {ws :List Value} {ps :List Int} {h0 :Heap} :lam_readB_Q w dp un gd s mg mb G news a vs D p1 p2 p3 p4 p5 p6 p7 p8 pm ctv c' f c1 c2 c3 c4 lr r0 r1 r2 r3 nr n o1 o2 o3 o4 fl u i t t' ws ps h0 :=lam_readB_L w dp un gd s mg mb G news a vs D p1 p2 p3 p4 p5 p6 p7 p8 pm ctv c' f c1 c2 c3 c4 lr r0 r1 r2 r3 nr n o1 o2 o3 o4 fl u i t t' ws ps h0
end
theorem kw127 :True :=by
  (k_with "mRangeRest" => (refine toStop ?_))
  (k_with "mcall ref" => (refine toStop ?_))
  (k_with "meval Name" => (refine toStop ?_))
  (k_with "mexec For Tuple Call" => (refine toStop ?_))
  (k_with "msetItem ref int" => (refine toStop ?_))
  (k_with "msubscriptTail Name Constant ref int" => (refine toStop ?_))
  trivial
end
section
section
theorem kw128 :True :=by
  (k_with "msetItem ref int" => (k_extra "r8"))
  (k_with "mRangeRest" => (refine Wait.h ?_))
  (k_with "mexec For Tuple Call" => (k_extra "r6"))
  trivial
theorem kw129 :True :=by
  (k_with "mcall ref" => (refine Wait.h ?_))
  (k_with "mcall ref" => (((with_reducible show wpAny _ _ (call (Value.ref 53) _) _ _ _); refine Wait.h ?_)))
  (k_with "mcall ref" => ((k_dflt (refine next_U (by assumption) (by ktr_unf) (by ktr_units) (by ktr_room) (by k_asm) (by k_asm) (by k_updF) (by k_mem) (by assumption) (by assumption) (by first | decide | omega) (by first | decide | omega) (by first | decide | omega) (by first | decide | omega) ?_; intro v8 t8 u8 h8 tk8 v80 v81 F8 N8; (try dsimp only at N8); (try dsimp only); (try k_fold)))))
  (k_with "msubscriptTail" => (refine Wait.h ?_))
  (k_with "mpyIter ref" => (refine Wait.h ?_))
  trivial
noncomputable abbrev lawFr (v1 v2 v3 v4 v5 v6 v7 v8 :Option Value) (m :Str → Option Value) :Str → Option Value :=fun z => if z = Str.ofString "turn" then v1 else if z = Str.ofString "kind" then v2 else if z = Str.ofString "name" then v3 else if z = Str.ofString "more" then v4 else if z = Str.ofString "octets" then v5 else if z = Str.ofString "told" then v6 else if z = Str.ofString "found" then v7 else if z = Str.ofString "first" then v8 else m z
theorem lawFr_of {m m₀ :Str → Option Value} (h :∀ z,z ≠ Str.ofString "turn" → z ≠ Str.ofString "kind" → z ≠ Str.ofString "name" → z ≠ Str.ofString "more" → z ≠ Str.ofString "octets" → z ≠ Str.ofString "told" → z ≠ Str.ofString "found" → z ≠ Str.ofString "first" → m z = m₀ z) :
    m = lawFr (m (Str.ofString "turn")) (m (Str.ofString "kind")) (m (Str.ofString "name")) (m (Str.ofString "more")) (m (Str.ofString "octets")) (m (Str.ofString "told")) (m (Str.ofString "found")) (m (Str.ofString "first")) m₀ :=funext fun z => by
  unfold lawFr
  by_cases h1 :z = Str.ofString "turn"
  · subst h1; rw [if_pos rfl]
  rw [if_neg h1]
  by_cases h2 :z = Str.ofString "kind"
  · subst h2; rw [if_pos rfl]
  rw [if_neg h2]
  by_cases h3 :z = Str.ofString "name"
  · subst h3; rw [if_pos rfl]
  rw [if_neg h3]
  by_cases h4 :z = Str.ofString "more"
  · subst h4; rw [if_pos rfl]
  rw [if_neg h4]
  by_cases h5 :z = Str.ofString "octets"
  · subst h5; rw [if_pos rfl]
  rw [if_neg h5]
  by_cases h6 :z = Str.ofString "told"
  · subst h6; rw [if_pos rfl]
  rw [if_neg h6]
  by_cases h7 :z = Str.ofString "found"
  · subst h7; rw [if_pos rfl]
  rw [if_neg h7]
  by_cases h8 :z = Str.ofString "first"
  · subst h8; rw [if_pos rfl]
  rw [if_neg h8]
  exact h z h1 h2 h3 h4 h5 h6 h7 h8
noncomputable def LoopJ (P :Params) (K :LK) (g :Heap) (ord :List Int) (tn :Bool) (m₀ :Str → Option Value) (i :Nat) (m :Str → Option Value) (nw :List (Addr × Obj)) :Prop :=
  ∃ v1 v2 v3 v4 v5 v6 v7 fv tf va vb cm D u0,∃ j0 :Nat,m = lawFr v1 v2 v3 v4 v5 v6 v7 fv m₀ ∧ LW P K g (3 + 6 * (i :Int)) tf va vb cm [] nw ∧ cm (Str.ofString "disk") = some (.ref K.a.d) ∧ cm (Str.ofString "mate") = some (.ref K.b.d) ∧
    IntsAre va D ∧ IntsAre vb (exL ord tn D 8) ∧ St i D u0 j0 ∧ (0 ≤ u0 ∧ u0 < 2) ∧ j0 < 3 ∧ (i = 1 → ∃ T t t',fv = some (.ref T) ∧ (T,tupOf [.int u0 t,.int (j0 :Nat) t']) ∈ nw ∧ T ∉ mutP K)
theorem hideL {g h :Heap} {L :Addr} {news :List (Addr × Obj)} {p :Prop} (N :News g L h news) (k :∀ base,News g L h base → (∀ q ∈ news,q ∈ base) → p) :p :=k news N fun _ h => h
theorem all_ne {f c :Nat} {o :Obj} {base :List (Addr × Obj)} (h :c < f ∧ AllLt f base) :∀ p ∈ (c,o) :: base,p.1 ≠ f :=fun p hp => by
  rcases List.mem_cons.mp hp with rfl | hp
  · exact Nat.ne_of_lt h.1
  · exact Nat.ne_of_lt (allLt h.2 p hp)
local macro_rules | `(tactic| k_all) => `(tactic| exact all_ne (by assumption))
noncomputable def LawPost (s :Shared) (r :Value) (s' :Shared) :Prop :=r = .bool true ∧ s'.os = s.os ∧ s'.gens = s.gens ∧ (∀ b o,s.heap.get? b = some o → b ≠ 358 → b ≠ 370 → s'.heap.get? b = some o) ∧ (∃ ps,s'.heap.get? 358 = some (tabObj ps)) ∧ ∃ ps,s'.heap.get? 370 = some (tabObj ps)
noncomputable def MidL (P :Params) (K :LK) (g :Heap) (L :Addr) (ord :List Int) (tn :Bool) (m₀ :Str → Option Value) (i :Nat) (D :List Int) (u0 :Int) (j0 :Nat) (I :Addr) (it :Obj) (s₀ s' :Shared) :Prop :=
  ∃ h tk v6 v7 fv tf va vb cm led,∃ (kv uv sp jv mv :Int) (t1 t2 t3 t4 t5 t6 t7 :Tok) (l3 n3 :Addr) (os :List Value) (oc :List Int) (XF :List (Addr × Obj)),s' = { s₀ with heap :=h,toks :=tk } ∧
    Fr g L h (lawFr (some (.int (i :Nat) t1)) (some (.int kv t2)) (some (.int jv t3)) (some (.int mv t4)) (some (.ref l3)) v6 v7 fv m₀) ∧ News g L h led ∧ LW P K g (3 + 6 * ((i + 1 :Nat) :Int)) tf va vb cm ((I,it) :: (l3,listOf os.toArray n3) :: XF) led ∧
    cm (Str.ofString "disk") = some (.ref K.a.d) ∧ cm (Str.ofString "mate") = some (.ref K.b.d) ∧ cm (Str.ofString "user") = some (.int uv t5) ∧ cm (Str.ofString "its_user") = some (.int (flipU tn uv) t6) ∧ cm (Str.ofString "spot") = some (.int sp t7) ∧
    IntsAre va D ∧ IntsAre vb (exL ord tn D 8) ∧ IntsAre os oc ∧ oc.length = 32 ∧ (0 ≤ uv ∧ uv < 2) ∧ (0 ≤ jv ∧ jv < 3) ∧ (0 ≤ mv ∧ mv < 3) ∧ (0 ≤ sp ∧ sp < 140) ∧ 0 ≤ kv ∧ (i < 2 → kv = 2 * (i :Int)) ∧ (i = 1 → uv = u0 ∧ jv = (j0 :Int)) ∧
    (i = 0 → ∃ T t t',fv = some (.ref T) ∧ (T,tupOf [.int uv t,.int jv t']) ∈ XF)
theorem flip_t {tn :Bool} {u :Int} (h :tn = true) (hu :u < 2) :1 - u = flipU tn u :=by unfold flipU; rw [if_pos ⟨hu,h⟩]
theorem flip_f {tn :Bool} {u :Int} (h :tn = false) :u = flipU tn u :=by unfold flipU; rw [if_neg (fun z => by rw [h] at z; cases z.2)]
theorem midL_of {P :Params} {K :LK} {g :Heap} {L :Addr} {ord :List Int} {tn :Bool} {m m₀ :Str → Option Value} {i :Nat} {D :List Int} {u0 :Int} {j0 :Nat} {I :Addr} {it :Obj} {s₀ :Shared} {h :Heap} {tk :Nat} {k :Int} {tf :Tok} {va vb :List Value} {cm :Str → Option Value} {X led :List (Addr × Obj)}
    {kv uv sp jv mv iu :Int} {t1 t2 t3 t4 t5 t6 t7 :Tok} {l3 n3 :Addr} {os :List Value} {oc :List Int} (XF :List (Addr × Obj)) (F :Fr g L h m) (N :News g L h led) (W :LW P K g k tf va vb cm X led) (hk :k = 3 + 6 * ((i + 1 :Nat) :Int))
    (hm :∀ z,z ≠ Str.ofString "turn" → z ≠ Str.ofString "kind" → z ≠ Str.ofString "name" → z ≠ Str.ofString "more" → z ≠ Str.ofString "octets" → z ≠ Str.ofString "told" → z ≠ Str.ofString "found" → z ≠ Str.ofString "first" → m z = m₀ z)
    (m1 :m (Str.ofString "turn") = some (.int (i :Nat) t1)) (m2 :m (Str.ofString "kind") = some (.int kv t2)) (m3 :m (Str.ofString "name") = some (.int jv t3)) (m4 :m (Str.ofString "more") = some (.int mv t4)) (m5 :m (Str.ofString "octets") = some (.ref l3))
    (x1 :(I,it) ∈ X) (x2 :(l3,listOf os.toArray n3) ∈ X) (x3 :∀ p ∈ XF,p ∈ X) (c1 :cm (Str.ofString "disk") = some (.ref K.a.d)) (c2 :cm (Str.ofString "mate") = some (.ref K.b.d)) (c3 :cm (Str.ofString "user") = some (.int uv t5)) (c4 :cm (Str.ofString "its_user") = some (.int iu t6)) (c5 :cm (Str.ofString "spot") = some (.int sp t7))
    (hiu :iu = flipU tn uv) (iA :IntsAre va D) (iB :IntsAre vb (exL ord tn D 8)) (io :IntsAre os oc) (ol :oc.length = 32) (b1 :0 ≤ uv) (b2 :uv < 2) (b3 :0 ≤ jv) (b4 :jv < 3) (b5 :0 ≤ mv) (b6 :mv < 3) (b7 :0 ≤ sp) (b8 :sp < 140) (b9 :0 ≤ kv)
    (y1 :i < 2 → kv = 2 * (i :Int)) (y2 :i = 1 → uv = u0 ∧ jv = (j0 :Int)) (y3 :i = 0 → ∃ T t t',m (Str.ofString "first") = some (.ref T) ∧ (T,tupOf [.int uv t,.int jv t']) ∈ XF) :MidL P K g L ord tn m₀ i D u0 j0 I it s₀ { s₀ with heap :=h,toks :=tk } :=by
  have e :=lawFr_of hm
  rw [m1,m2,m3,m4,m5] at e
  rw [e] at F
  rw [hk] at W
  rw [hiu] at c4
  refine ⟨h,tk,_,_,_,tf,va,vb,cm,led,kv,uv,sp,jv,mv,t1,t2,t3,t4,t5,t6,t7,l3,n3,os,oc,XF,rfl,F,N,W.less fun p hp => ?_,c1,c2,c3,c4,c5,iA,iB,io,ol,⟨b1,b2⟩,⟨b3,b4⟩,⟨b5,b6⟩,⟨b7,b8⟩,b9,y1,y2,y3⟩
  rcases List.mem_cons.mp hp with rfl | hp
  · exact x1
  · rcases List.mem_cons.mp hp with rfl | hp
    · exact x2
    · exact x3 p hp
theorem law_split {prog :Program} {w :World} {A :Around} {E :Value → Shared → Prop} {s :Shared} {env :Env} {s1 s2 s3 s4 s5 :Stmt} {rest :List Stmt} {Q :Flow → Shared → Prop} (P :Shared → Prop)
    (head :wpAny (model prog w) A (execs [s1,s2,s3,s4,s5] env) (fun f s' => match f with | .next => P s' | f => Q f s') E s)
    (tail :∀ s',P s' → wpAny (model prog w) A (execs rest env) Q E s') :wpAny (model prog w) A (execs (s1 :: s2 :: s3 :: s4 :: s5 :: rest) env) Q E s :=
  wp_app (l :=[s1,s2,s3,s4,s5]) P head tail
theorem tup_it {vs :List Value} {a b :Int} :tupOf vs ≠ itR a b :=fun e => absurd (Value.type.inj (congrArg Obj.cls e)) (by decide)
theorem turnE_end {P :Params} {K :LK} {g :Heap} {L :Addr} {ord :List Int} {tn :Bool} {m m₀ :Str → Option Value} {i :Nat} {D' :List Int} {uv jv a1 a2 :Int} {I :Addr} {s₁ :Shared} {h :Heap} {tk :Nat} {k :Int} {tf :Tok} {va vb :List Value} {cm :Str → Option Value} {X led :List (Addr × Obj)} {Q :Flow → Shared → Prop}
    (F :Fr g L h m) (N :News g L h led) (W :LW P K g k tf va vb cm X led) (ok :K.Ok) (bI :K.b.l < I) (hk :k = 3 + 6 * ((i + 1 :Nat) :Int))
    (hm :∀ z,z ≠ Str.ofString "turn" → z ≠ Str.ofString "kind" → z ≠ Str.ofString "name" → z ≠ Str.ofString "more" → z ≠ Str.ofString "octets" → z ≠ Str.ofString "told" → z ≠ Str.ofString "found" → z ≠ Str.ofString "first" → m z = m₀ z)
    (x1 :(I,itR a1 a2) ∈ X) (c1 :cm (Str.ofString "disk") = some (.ref K.a.d)) (c2 :cm (Str.ofString "mate") = some (.ref K.b.d)) (iA :IntsAre va D') (iB :IntsAre vb (exL ord tn D' 8)) (I' :Inv (i + 1) D') (hHas :i + 1 = 1 → Has D' uv (nm jv.toNat)) (hu :0 ≤ uv ∧ uv < 2) (hj :0 ≤ jv ∧ jv < 3)
    (y3 :i = 0 → ∃ T t t',m (Str.ofString "first") = some (.ref T) ∧ (T,tupOf [.int uv t,.int jv t']) ∈ X) :TurnE g L s₁ I (itR a1 a2) (LoopJ P K g ord tn m₀ (i + 1)) Q .next { s₁ with heap :=h,toks :=tk } :=by
  have hI :=(W.ex _ x1).1
  have ej :((jv.toNat :Nat) :Int) = jv :=Int.toNat_of_nonneg hj.1
  have WD :=W.drop N ok bI hI noCode_iter
  rw [hk] at WD
  refine ⟨h,tk,m,dropN I led,rfl,F,News.first N hI,dropN_ne,_,_,_,_,_,_,_,_,tf,va,vb,cm,D',uv,jv.toNat,lawFr_of hm,WD,c1,c2,iA,iB,⟨I',hHas,fun h => by omega⟩,hu,by omega,fun e => ?_⟩
  obtain ⟨T,t,t',e1,e2⟩ :_ :=y3 (by omega)
  have e3 :=W.ex _ e2
  rw [ej]
  exact ⟨T,t,t',e1,mem_dropN.mpr ⟨e3.1,News.ne N e3.1 hI tup_it⟩,e3.2⟩
noncomputable def MidR (P :Params) (K :LK) (g :Heap) (L :Addr) (m :Str → Option Value) (k :Int) (tf :Tok) (va vb :List Value) (cm :Str → Option Value) (X :List (Addr × Obj)) (p0 p1 p2 p3 :List Int) (s₀ s' :Shared) :Prop :=
  ∃ (h :Heap) (tk :Nat) (led :List (Addr × Obj)) (lr r0 r1 r2 r3 nr n0 n1 n2 n3 :Nat) (ws0 ws1 ws2 ws3 :List Value),s' = { s₀ with heap :=h,toks :=tk } ∧ Fr g L h m ∧ News g L h led ∧
    LW P K g k tf va vb (fun z => if z = Str.ofString "raws" then some (.ref lr) else cm z) ((lr,listOf [Value.ref r0,.ref r1,.ref r2,.ref r3].toArray nr) :: (r3,listOf ws3.toArray n3) :: (r2,listOf ws2.toArray n2) :: (r1,listOf ws1.toArray n1) :: (r0,listOf ws0.toArray n0) :: X) led ∧
    IntsAre ws0 p0 ∧ IntsAre ws1 p1 ∧ IntsAre ws2 p2 ∧ IntsAre ws3 p3
theorem law_split1 {prog :Program} {w :World} {A :Around} {E :Value → Shared → Prop} {s :Shared} {env :Env} {s1 :Stmt} {rest :List Stmt} {Q :Flow → Shared → Prop} {K :LK} {g :Heap} {L :Addr} {m :Str → Option Value} {k :Int} {tf :Tok} {va vb :List Value} {cm :Str → Option Value} {X led :List (Addr × Obj)} (p0 p1 p2 p3 :List Int) (F :Fr g L s.heap m) (W :LW w.params K g k tf va vb cm X led)
    (head :wpAny (model prog w) A (execs [s1] env) (fun f s' => match f with | .next => MidR w.params K g L m k tf va vb cm X p0 p1 p2 p3 s s' | f => Q f s') E s)
    (tail :∀ s',MidR w.params K g L m k tf va vb cm X p0 p1 p2 p3 s s' → wpAny (model prog w) A (execs rest env) Q E s') :wpAny (model prog w) A (execs (s1 :: rest) env) Q E s :=
  wp_app (l :=[s1]) _ head tail
local macro_rules | `(tactic| kpc_g) => `(tactic| k_extra "kpc_g16")
local macro_rules | `(tactic| tb_start) => `(tactic| first | assumption | omega)
theorem kw130 :True :=by
  (k_with "mstoreName" => (((rename LW _ _ _ _ _ _ _ _ _ _ => lW'); k_dflt (first | refine LW.storeU lW' (by with_reducible assumption) (by k_asm) (by k_asm) (by with_reducible assumption) (by with_reducible assumption) (by rfl) (by simp [lawCells]) ?_ | refine LW.storeT lW' (by with_reducible assumption) (by k_asm) (by k_asm) (by with_reducible assumption) (by rfl) (by simp [lawCells]) ?_ | refine LW.store lW' (by with_reducible assumption) (by k_asm) (by k_asm) (by rfl) (by simp [lawCells]) ?_); clear lW'; intro h8 led8 F8 N8 W8; (try dsimp only))))
  (k_with "kpc_g16" => (((try dsimp only); repeat (first | (with_reducible assumption) | exact if_pos (by decide) | refine (if_neg (by decide)).trans ?_))))
  (k_with "meval Name" => (((rename LW _ _ _ _ _ _ _ _ _ _ => lW'); k_dflt (refine LW.loadS lW' (by k_asm) (by ktr_rel) (by rfl) (by simp [lawCells]) (by kpc_g) ?_))))
  (k_with "mcall ref" => (((rename LW _ _ _ _ _ _ _ _ _ _ => lW'); k_dflt (refine LW.nextS lW' (by with_reducible assumption) (by k_asm) (by k_asm) (by ktr_rel) (by with_reducible assumption) (by ktr_unf) (by with_reducible assumption) (by ktr_room) (by with_reducible assumption) (by with_reducible assumption) (by omega) (by omega) (by first | decide | omega) (by first | decide | omega) ?_); clear lW'; intro v8 t8 u8 h8 tk8 led8 v80 v81 F8 N8 W8; (try dsimp only); (try k_fold))))
  (k_with "mexec Assign cons ListComp" => (k_extra "r4"))
  (k_with "mCompSrc" => (refine Wait.h ?_))
  (k_with "msubscriptTail Name Constant ref int" => (((with_reducible show wpAny _ _ (subscriptTail _ (Expr.Constant (Const.int 0) _ _) _ _) _ _ _); k_dflt (refine item_two0 (by k_asm) (by k_mem) ?_ (by with_unfolding_all rfl) (by intro _; with_unfolding_all rfl)))))
  (k_with "msubscriptTail Name Constant ref int" => (((with_reducible show wpAny _ _ (subscriptTail _ (Expr.Constant (Const.int 1) _ _) _ _) _ _ _); k_dflt (refine item_two1 (by k_asm) (by k_mem) ?_ (by with_unfolding_all rfl) (by intro _; with_unfolding_all rfl)))))
  (k_with "mcall ref" => (((with_reducible show wpAny _ _ (call (Value.ref 349) _) _ _ _); (rename LW _ _ _ _ _ _ _ _ _ _ => lW'); k_dflt (refine LW.names lW' (by with_reducible assumption) (by k_asm) (by k_asm) (by with_reducible assumption) (by ktr_unf) (by with_reducible assumption) (by ktr_room) ?_); clear lW'; intro x8 a8 b8 c8 n8 na8 nb8 nc8 wa8 wb8 wc8 h8 tk8 led8 iA8 iB8 iC8 F8 N8 W8; (try dsimp only); (try k_fold))))
  (k_with "msubscriptTail Call Name" => (((rename LW _ _ _ _ _ _ _ _ _ _ => lW'); k_dflt (refine LW.item lW' (by k_asm) (by with_reducible assumption) (by with_reducible assumption) (by with_reducible assumption) (by omega) (by omega) ?_ (by with_unfolding_all rfl)); clear lW'; intro y8 k8 ys8 iY8 W8; (try dsimp only))))
  (k_with "msubscriptTail Call Subscript" => (((rename LW _ _ _ _ _ _ _ _ _ _ => lW'); k_dflt (refine LW.item lW' (by k_asm) (by with_reducible assumption) (by with_reducible assumption) (by with_reducible assumption) (by omega) (by omega) ?_ (by with_unfolding_all rfl)); clear lW'; intro y8 k8 ys8 iY8 W8; (try dsimp only))))
  (k_with "msubscriptTail Name Name ref int" => (((rename LW _ _ _ _ _ _ _ _ _ _ => lW'); k_dflt (refine LW.ord lW' (by k_asm) (by with_reducible assumption) (by with_reducible assumption) (by omega) (by omega) ?_ (by with_unfolding_all rfl) (by intro _; with_unfolding_all rfl)); intro t8; (try dsimp only))))
  (k_with "msubscriptTail Name Constant ref int" => (((rename LW _ _ _ _ _ _ _ _ _ _ => lW'); k_dflt (refine LW.four lW' (by k_asm) (by k_mem) (by decide) (by decide) rfl ?_ (by with_unfolding_all rfl) (by intro _; with_unfolding_all rfl)))))
  (k_with "mcall ref" => (((with_reducible show wpAny _ _ (call (Value.ref 363) _) _ _ _); refine Wait.h ?_)))
  (k_with "mcall ref" => (((with_reducible show wpAny _ _ (call (Value.ref 356) _) _ _ _); refine Wait.h ?_)))
  (k_with "mcall ref" => (((with_reducible show wpAny _ _ (call (Value.ref 368) _) _ _ _); refine Wait.h ?_)))
  (k_with "meval Lambda" => (refine Wait.h ?_))
  (k_with "mcallWith ref" => (k_here; (with_reducible show wpAny _ _ (callWith _ _ _ (backTo _ (starEach [] _)) []) _ _ _); k_dflt ((refine' callWith_K0 (by exact Frag.In.keeps (by with_reducible assumption) (Fr.keep (by with_reducible assumption))) (by k_is) ?_); k_whole)))
  (k_with "mcompareOp NotEq" => (refine Wait.h ?_))
  (k_with "mcompareOp NotEq" => ((k_dflt (refine told_ne (by with_reducible assumption) (by with_reducible assumption) ?_))))
  (k_with "mcompareOp NotEq ref ref" => (refine Wait.h ?_))
  (k_with "mcompareOp Is" => (refine Wait.h ?_))
  (k_with "mcompareOp IsNot" => (refine Wait.h ?_))
  trivial
theorem TabOk.old {qual :Str} {ps :Array Value} {g h :Heap} {hid :List Addr} {R :List (Addr × Obj)} (T :TabOk qual ps h) (kp :∀ b o,h.get? b = some o → b ∉ hid → g.get? b = some o) (hh :∀ b ∈ hid,∃ o,h.get? b = some o ∧ NoCode o) :TabCov qual ps g R :=
  ⟨T.tri,fun pos cv e => by
    obtain ⟨c',rfl,c₂,oc,vs,t,e2,hoc,hd,hv⟩ :_ :=T.codes pos cv e
    cases e2
    have hoc :h.get? c' = some oc :=hoc
    refine ⟨c',oc,rfl,⟨vs,t,hd,hv⟩,.inr (kp _ _ hoc fun hm => ?_)⟩
    obtain ⟨o,h1,h2⟩ :_ :=hh _ hm
    rw [hoc] at h1
    cases h1
    exact h2 _ ⟨vs,t,hd,hv⟩⟩
noncomputable def waysL :List (List Int) :=[[1,2,0],[2,0,1],[1,0,2],[0,2,1],[2,1,0],[0,1,2]]
section
variable (w dp un gd s mg mb G)
noncomputable abbrev law_ok_Q (sl :Nat) (ws :List Value) (sc :List Int) :Prop :=∀ (gh :GH w mg mb G) (st :Stay G s.heap) (lv :Lv dp un 40) (t8z :TabIn 358 deedQ s.heap) (t0 :TabIn 370 lawQ s.heap) (g8 :G.get? 358 = none) (g0 :G.get? 370 = none) (hsl :s.heap.IsList sl ws.toArray) (qI :IntsAre ws sc) (hsc :sc.length ≤ 100000),wpAny (model rw_tg0048_01.row.prog w) (AR dp un (some []) gd) (call (.ref 373) [.ref sl]) (LawPost s) (fun _ _ => False) s
end
theorem law_ok_L :∀ w dp un gd s mg mb G sl ws sc,law_ok_Q w dp un gd s mg mb G sl ws sc :=by
  intro w dp un gd s mg mb G sl ws sc
  delta law_ok_Q
  intro gh st lv t8z t0 g8 g0 hsl qI hsc
  obtain ⟨ps8,h8z,hT8⟩ :=t8z
  obtain ⟨ps0,h0,hT0⟩ :=t0
  refine wpAny_call ?_
  refine' enterCH [358,370] gh st ?hG ?k8z ?k6 ?k7 ?k9 ?kB ?kD ?_ ?c2 ?c3 ?c4
  case hG =>
    intro b hb
    simp only [List.mem_cons,List.not_mem_nil,or_false] at hb
    rcases hb with rfl | rfl
    · exact g8
    · exact g0
  case k6 => k_is
  case k7 => k_is
  case k8z => exact lv_room lv
  case k9 => exact BindsTo.of_eq rfl
  case kB => exact rfl
  case kD => decide +kernel
  case c2 => exact rfl
  case c3 => exact rfl
  case c4 => exact rfl
  intro g L h₁ tk'z cells loose mean F N Y X T sg kp bk hL st₁ nc
  obtain ⟨o1,o2,o3,o4,o5,o6,o7,rfl,d1,d2,d3,d4,d5,d6,d7⟩ :=CellsAre.seven Y
  clear Y
  have nX :∀ (P :Nat) (o :Obj),s.heap.get? P = some o → ∀ (cl :List (Addr × Obj)),(∀ p ∈ cl,s.heap.get? p.1 = none) → ∀ p ∈ cl,@Ne Nat P p.1 :=fun P o e cl nc p hp q => by
    have :=nc p hp
    rw [← show P = p.1 from q,e] at this
    cases this
  have n8z :=nX 358 _ h8z _ nc
  have n9z :=nX 370 _ h0 _ nc
  simp only [List.forall_mem_cons] at n8z n9z
  have F :Fr g L h₁ (fun z => if z = Str.ofString "script" then some (.ref sl) else none) :=F
  have d1 :o1.data = .cell none :=d1
  have d2 :o2.data = .cell none :=d2
  have d3 :o3.data = .cell none :=d3
  have d4 :o4.data = .cell none :=d4
  have d5 :o5.data = .cell none :=d5
  have d6 :o6.data = .cell none :=d6
  have d7 :o7.data = .cell none :=d7
  have hid :∀ b ∈ [358,370],g.get? b = none :=fun b hb => by
    cases q :g.get? b with
    | none => rfl
    | some o => exact absurd hb (bk _ _ q).2
  have nL :∀ b o,s.heap.get? b = some o → b ≠ L :=fun b o z e => by rw [e,hL] at z; cases z
  have N :News g L h₁ ([(L + 1 + 1 + 1 + 1 + 1 + 1 + 1,o1),(L + 1 + 1 + 1 + 1 + 1 + 1,o2),(L + 1 + 1 + 1 + 1 + 1,o3),(L + 1 + 1 + 1 + 1,o4),(L + 1 + 1 + 1,o5),(L + 1 + 1,o6),(L + 1,o7),(358,tabObj ps8),(370,tabObj ps0)]) :=fun p hp => by
    rcases List.mem_append.mp (show p ∈ [(L + 1 + 1 + 1 + 1 + 1 + 1 + 1,o1),(L + 1 + 1 + 1 + 1 + 1 + 1,o2),(L + 1 + 1 + 1 + 1 + 1,o3),(L + 1 + 1 + 1 + 1,o4),(L + 1 + 1 + 1,o5),(L + 1 + 1,o6),(L + 1,o7)] ++ [(358,tabObj ps8),(370,tabObj ps0)] from hp) with hp | hp
    · exact N p hp
    · simp only [List.mem_cons,List.not_mem_nil,or_false] at hp
      rcases hp with rfl | rfl
      · exact ⟨st₁ _ _ h8z,nL _ _ h8z,hid _ (by simp)⟩
      · exact ⟨st₁ _ _ h0,nL _ _ h0,hid _ (by simp)⟩
  have glst :g.IsList sl ws.toArray :=by
    obtain ⟨o,z1,z2,z3⟩ :=hsl
    refine ⟨o,kp _ _ z1 fun hb => ?_,z2,z3⟩
    simp only [List.mem_cons,List.not_mem_nil,or_false] at hb
    rcases hb with rfl | rfl
    · rw [h8z] at z1; cases z1; cases z2
    · rw [h0] at z1; cases z1; cases z2
  dsimp only
  have l60 :(List.take 60 sc).length ≤ 60 :=by rw [List.length_take]; omega
  have st1 :Stay G h₁ :=fun b o e => st₁ _ _ (st _ _ e)
  refine hideL N ?_
  clear N
  intro base N hb
  k_steps
  refine ⟨?_⟩
  refine item_lists (nss :=waysL) (by k_asm) (by k_mem) ?_ (by assumption) (by assumption) (by decide) ?_
  · repeat (first | exact Lists.nil | (refine Lists.cons (by k_mem) ?_ ?_; · repeat (first | exact IntsAre.nil | refine IntsAre.cons _ _ ?_)))
  intro lo os no hin mlo iO
  simp only [List.mem_cons,Value.ref.injEq,List.not_mem_nil,or_false] at hin
  k_steps
  refine ⟨?_⟩
  rename Fr _ _ _ _ => F0
  rename News _ _ _ _ => N0
  rename IntsAre _ (List.take 60 sc) => iC
  have h9f :∃ (f c :Nat) (tf :Tok) (cs :List Value) (mv :Int) (tm :Tok) (tn :Bool) (wy :Int) (tw :Tok),Fr g L _ (fun y => if y = Str.ofString "order" then some (Value.ref lo) else if y = Str.ofString "many" then some (Value.int (3 + mv) tm) else if y = Str.ofString "way" then some (Value.int wy tw) else if y = Str.ofString "is_turned" then some (Value.bool tn) else if y = Str.ofString "feed" then some (Value.ref f) else if y = Str.ofString "first" then some Value.none else if y = Str.ofString "script" then some (Value.ref sl) else none) ∧
      News g L _ ((lo,listOf os.toArray no) :: (f,listOf [Value.ref c,Value.int (0 + 1 + 1 + 1) tf].toArray 0) :: (c,listOf cs.toArray 0) :: base) ∧ IntsAre cs (List.take 60 sc) ∧ 0 ≤ mv ∧ mv < 5 ∧ 0 ≤ wy ∧ wy < 6 ∧ IntsAre os (waysL.getD wy.toNat []) ∧ @LT.lt Nat instLTNat (L + 1 + 1 + 1 + 1 + 1 + 1 + 1) c ∧ c < f ∧ f < lo ∧ 370 < c :=
    ⟨_,_,_,_,_,_,_,_,_,F0,News.sub N0 (by
      intro p hp
      rcases List.mem_cons.mp hp with rfl | hp
      · exact mlo
      · refine List.mem_cons_of_mem _ (List.mem_cons_of_mem _ (List.mem_cons_of_mem _ (List.mem_cons_of_mem _ (List.mem_cons_of_mem _ (List.mem_cons_of_mem _ (List.mem_cons_of_mem _ (List.mem_cons_of_mem _ (List.mem_cons_of_mem _ ?_))))))))
        exact hp),iC,by assumption,by assumption,by assumption,by assumption,iO,(by assumption :∀ p ∈ base,p.1 < _) (L + 1 + 1 + 1 + 1 + 1 + 1 + 1,o1) (hb _ (by simp)),by omega,by (rcases hin with h | h | h | h | h | h <;> (rw [h]; omega)),(by assumption :∀ p ∈ base,p.1 < _) (370,tabObj ps0) (hb _ (by simp))⟩
  obtain ⟨f,c,tf,cs,mv,tm,tn,wy,tw,F0,N0,iC,m0,m5,w0,w6,iO,lc,cf,fl,lc2⟩ :=h9f
  k_dflt (refine Disk_ok gh sg X (by k_asm) (by k_asm) (by ktr_room) ?_)
  intro a va h2 tk2 F2 N2 b1 b2 b3 b4 ia
  k_lt b1
  k_steps
  refine ⟨?_⟩
  k_dflt (refine Disk_ok gh sg X (by k_asm) (by k_asm) (by ktr_room) ?_)
  intro b vb h3 tk3 F3 N3 c1 c2 c3 c4 ib
  k_lt c1
  have hid8 :∀ b ∈ [358,370],∃ o,s.heap.get? b = some o ∧ NoCode o :=fun b hb => by
    simp only [List.mem_cons,List.not_mem_nil,or_false] at hb
    rcases hb with rfl | rfl
    · exact ⟨_,h8z,noCode_tab hT8.tri⟩
    · exact ⟨_,h0,noCode_tab hT0.tri⟩
  have cut :∀ P M :Nat,(P ≠ M + 7 ∧ P ≠ M + 6 ∧ P ≠ M + 5 ∧ P ≠ M + 4 ∧ P ≠ M + 3 ∧ P ≠ M + 2 ∧ P ≠ M + 1) → P ≤ M ∨ M + 7 < P :=fun P M h => by clear b1 c1 cf fl lc lc2; omega
  have ok :LK.Ok ⟨a,b,L,f,c,lo,0,0,no,cs,os⟩ :=LK.Ok.of lc lc2 cf fl b1.1 b2 b3 b4 c1.1 c2 c3 c4 (cut 358 L ⟨n8z.1,n8z.2.1,n8z.2.2.1,n8z.2.2.2.1,n8z.2.2.2.2.1,n8z.2.2.2.2.2.1,n8z.2.2.2.2.2.2.1⟩) (cut 370 L ⟨n9z.1,n9z.2.1,n9z.2.2.1,n9z.2.2.2.1,n9z.2.2.2.2.1,n9z.2.2.2.2.2.1,n9z.2.2.2.2.2.2.1⟩)
  refine LW.hide (P :=w.params) (K :=⟨a,b,L,f,c,lo,0,0,no,cs,os⟩) (k :=0 + 1 + 1 + 1) (tf :=tf) (va :=va) (vb :=vb) (cm :=fun _ => none) (X :=[]) N3 ?_ ?_
  · have bs :∀ p ∈ base,p ∈ (b.l,listOf vb.toArray b.n) :: (b.gl,listOf [].toArray b.gn) :: (b.d,instObj 53 b.dd) :: (b.dd,dictOf (diskD w.params b) 7) :: (a.l,listOf va.toArray a.n) :: (a.gl,listOf [].toArray a.gn) :: (a.d,instObj 53 a.dd) :: (a.dd,dictOf (diskD w.params a) 7) :: (lo,listOf os.toArray no) :: (f,listOf [Value.ref c,Value.int (0 + 1 + 1 + 1) tf].toArray 0) :: (c,listOf cs.toArray 0) :: base :=fun p hp => by repeat (first | exact hp | refine List.mem_cons_of_mem _ ?_)
    refine ⟨?_,?_,?_,?_,?_,⟨ps8,bs _ (hb _ (by simp)),TabOk.old hT8 kp hid8⟩,⟨ps0,bs _ (hb _ (by simp)),TabOk.old hT0 kp hid8⟩,fun _ h => nomatch h⟩
    · intro p hp
      simp only [fixL,List.mem_cons,List.not_mem_nil,or_false] at hp
      rcases hp with rfl | rfl | rfl | rfl | rfl | rfl | rfl | rfl <;> k_mem
    · k_mem
    · k_mem
    · k_mem
    · intro x d hx
      simp only [lawCells,List.mem_cons,Prod.mk.injEq,List.not_mem_nil,or_false] at hx
      rcases hx with ⟨rfl,rfl⟩ | ⟨rfl,rfl⟩ | ⟨rfl,rfl⟩ | ⟨rfl,rfl⟩ | ⟨rfl,rfl⟩ | ⟨rfl,rfl⟩ | ⟨rfl,rfl⟩
      · exact ⟨o7,bs _ (hb (L + 1,o7) (by simp)),d7⟩
      · exact ⟨o6,bs _ (hb (L + 1 + 1,o6) (by simp)),d6⟩
      · exact ⟨o5,bs _ (hb (L + 1 + 1 + 1,o5) (by simp)),d5⟩
      · exact ⟨o4,bs _ (hb (L + 1 + 1 + 1 + 1,o4) (by simp)),d4⟩
      · exact ⟨o3,bs _ (hb (L + 1 + 1 + 1 + 1 + 1,o3) (by simp)),d3⟩
      · exact ⟨o2,bs _ (hb (L + 1 + 1 + 1 + 1 + 1 + 1,o2) (by simp)),d2⟩
      · exact ⟨o1,bs _ (hb (L + 1 + 1 + 1 + 1 + 1 + 1 + 1,o1) (by simp)),d1⟩
  clear b1 b2 b3 b4 c1 c2 c3 c4 lc lc2 cf fl hid8 cut n8z n9z N3 N2 F2 N0 hb
  intro led3 N3 W3
  k_steps
  refine ⟨?_⟩
  rename News _ _ _ _ => N5
  rename Fr _ _ _ _ => F5
  rename IsRange _ _ _ _ _ _ _ _ => hr
  have big :(3 + mv :Int) = ((3 + mv).toNat :Int) :=by omega
  have n7 :(3 + mv).toNat ≤ 7 :=by omega
  have mv5 :mv = 0 ∨ mv = 1 ∨ mv = 2 ∨ mv = 3 ∨ mv = 4 :=by omega
  refine iter_rangeUnr (n :=(3 + mv).toNat) rfl hr (by rcases mv5 with rfl | rfl | rfl | rfl | rfl <;> rfl) (by rcases mv5 with rfl | rfl | rfl | rfl | rfl <;> rfl) F5 N5 ?_
  intro I ltI
  generalize hn7 :(3 + mv).toNat = many at n7
  clear big mv5 hn7 hr
  rename LW _ _ _ _ _ _ _ _ _ _ => W4
  have h9K :∃ K :LK,K = ⟨a,b,L,f,c,lo,0,0,no,cs,os⟩ :=⟨_,rfl⟩
  obtain ⟨K,hK⟩ :=h9K
  rw [← hK] at W4 ok
  have bI :K.b.l < I :=ltI _ W4.mb
  have gL :G.get? L = none :=by
    cases q :G.get? L with
    | none => rfl
    | some o => have z :=st _ _ q; rw [hL] at z; cases z
  have O :Ordr (waysL.getD wy.toNat []) :=ways_ordr (by omega)
  have hC :IntsAre K.cs (List.take 60 sc) :=by rw [hK]; exact iC
  generalize hord :waysL.getD wy.toNat [] = ord at iO O
  have hO :IntsAre K.os ord :=by rw [hK]; exact iO
  refine range_inv2 (LoopJ w.params K g ord tn (fun y => if y = Str.ofString "order" then some (Value.ref lo) else if y = Str.ofString "many" then some (Value.int (3 + mv) tm) else if y = Str.ofString "way" then some (Value.int wy tw) else if y = Str.ofString "is_turned" then some (Value.bool tn) else if y = Str.ofString "feed" then some (Value.ref f) else if y = Str.ofString "first" then some Value.none else if y = Str.ofString "script" then some (Value.ref sl) else none)) ?_ ?_ ?_
  · (intro i m₁ nw t h tk hi; rintro ⟨v1,v2,v3,v4,v5,v6,v7,fv,tf,va,vb,cm,D,u0,j0,rfl,W,cD,cM,iA,iB,S,hu0,hj0,h1⟩; intro F'z N'z)
    clear F5 N5 ltI ia ib
    simp only [Int.zero_add] at F'z
    replace F'z :Fr g L h _ :=F'z
    replace N'z :News g L h _ :=N'z
    have W :=W.mono (fun p hp => N'z p (List.mem_cons_of_mem _ hp)) ok (led' :=(I,itR (0 + ((i + 1 :Nat) :Int)) ((many :Int) - ((i + 1 :Nat) :Int))) :: nw) (fun p hp => List.mem_cons_of_mem _ hp)
    have h9x :∃ XF0 :List (Addr × Obj),(∀ p ∈ XF0,p ∈ nw ∧ p.1 ∉ mutP K) ∧ (i = 1 → ∃ T t t',fv = some (.ref T) ∧ (T,tupOf [.int u0 t,.int (j0 :Nat) t']) ∈ XF0) :=by
      by_cases e1 :i = 1
      · obtain ⟨T,t,t',e,m,n⟩ :=h1 e1
        exact ⟨[(T,tupOf [.int u0 t,.int (j0 :Nat) t'])],fun p hp => by rw [List.mem_singleton.mp hp]; exact ⟨m,n⟩,fun _ => ⟨T,t,t',e,List.mem_cons_self⟩⟩
      · exact ⟨[],(fun _ h => nomatch h),fun h => absurd h e1⟩
    obtain ⟨XF0,hx0,h1'⟩ :=h9x
    replace W :=W.more (X' :=(I,itR (0 + ((i + 1 :Nat) :Int)) ((many :Int) - ((i + 1 :Nat) :Int))) :: XF0) fun p hp => by
      rcases List.mem_cons.mp hp with rfl | hp
      · exact ⟨List.mem_cons_self,LW.off (it :=itR 0 0) ok bI⟩
      · exact ⟨List.mem_cons_of_mem _ (hx0 p hp).1,(hx0 p hp).2⟩
    rw [List.append_nil] at W
    clear hx0 h1
    refine LW.hide N'z W ?_
    clear N'z W
    intro led N'z W
    refine law_split (MidL w.params K g L ord tn (fun y => if y = Str.ofString "order" then some (Value.ref lo) else if y = Str.ofString "many" then some (Value.int (3 + mv) tm) else if y = Str.ofString "way" then some (Value.int wy tw) else if y = Str.ofString "is_turned" then some (Value.bool tn) else if y = Str.ofString "feed" then some (Value.ref f) else if y = Str.ofString "first" then some Value.none else if y = Str.ofString "script" then some (Value.ref sl) else none) i D u0 j0 I (itR (0 + ((i + 1 :Nat) :Int)) ((many :Int) - ((i + 1 :Nat) :Int))) { s with heap :=h,toks :=tk }) ?_ ?_
    · subst hK
      have hi7 :i < 7 :=by omega
      k_steps
      refine ⟨?_⟩
      rename LW _ _ _ _ _ _ _ _ _ _ => W6
      obtain ⟨oc7,m7,e7⟩ :=W6.cel (Str.ofString "octet") (L + 1) (by simp [lawCells])
      rw [if_pos rfl] at e7
      have h9o :∃ ov tov,oc7.data = Data.cell (some (.int ov tov)) :=⟨_,_,e7⟩
      obtain ⟨ov,tov,e7⟩ :=h9o
      rename IsRange _ _ _ _ _ _ _ _ => hr9
      k_dflt (refine LCg.CompSrc.range (by rfl) (by k_asm) (by k_asm) (by assumption) (by first | decide | rfl) (by first | rfl | decide) (by first | size_fits | exact Nat.le_of_ble_eq_true rfl) ?_)
      intro g9
      refine rest_range (n :=32) (fun j y => ∃ u,y = Value.int (Int.fmod (ov + (j :Int)) 256) u) ?_ ?_
      · intro j tj I9 oI C oC D9 ys m₂ h9z tk9z E' hj hC9 hx F N
        simp only [Int.zero_add] at hx
        dsimp only
        k_steps
        all_goals exact outL (by assumption) (by assumption) ⟨_,rfl⟩
      · intro ys hp
        have ic :=paired_intsA hp
        clear hp
        unfold LCg.FinA
        intro Dl hf tkf Ff Nf of
        have ofl :=off1_ne of
        have W7 :=LW.grab W6 ok Nf ofl
        clear W6 ofl of m7
        refine LW.hide Nf W7 ?_
        clear Nf W7
        intro led7 N7 W7
        rcases (by omega :i = 0 ∨ i = 1 ∨ 2 ≤ i) with rfl | rfl | hi2
        · k_steps
          all_goals exact midL_of [(_,tupOf [_,_])] (by k_asm) (by k_asm) (by assumption) (by omega) (fun z h1 h2 h3 h4 h5 h6 h7 h8z => by dsimp only [lawFr]; simp only [if_neg h1,if_neg h2,if_neg h3,if_neg h4,if_neg h5,if_neg h6,if_neg h7,if_neg h8z]) rfl rfl rfl rfl rfl (by k_mem) (by k_mem) (fun p hp => by rw [List.mem_singleton.mp hp]; k_mem) (by exact cD) (by exact cM) rfl rfl rfl (by first | exact flip_t (by assumption) (by tb_start) | exact flip_f (by assumption)) iA iB ic (by rw [List.length_map,List.length_range]) (by tb_start) (by tb_start) (by tb_start) (by tb_start) (by tb_start) (by tb_start) (by tb_start) (by tb_start) (by tb_start) (fun _ => rfl) (fun h => by cases h) (fun _ => ⟨_,_,_,rfl,List.mem_cons_self⟩)
        · obtain ⟨T,tT,tT',rfl,mT⟩ :=h1' rfl
          have mT7 :(T,tupOf [.int u0 tT,.int (j0 :Nat) tT']) ∈ led7 :=(W7.ex _ (by simp [mT])).1
          k_steps
          all_goals exact midL_of [] (by k_asm) (by k_asm) (by assumption) (by omega) (fun z h1 h2 h3 h4 h5 h6 h7 h8z => by dsimp only [lawFr]; simp only [if_neg h1,if_neg h2,if_neg h3,if_neg h4,if_neg h5,if_neg h6,if_neg h7,if_neg h8z]) rfl rfl rfl rfl rfl (by k_mem) (by k_mem) (fun _ h => nomatch h) (by exact cD) (by exact cM) rfl rfl rfl (by first | exact flip_t (by assumption) (by tb_start) | exact flip_f (by assumption)) iA iB ic (by rw [List.length_map,List.length_range]) (by tb_start) (by tb_start) (by tb_start) (by tb_start) (by tb_start) (by tb_start) (by tb_start) (by tb_start) (by tb_start) (fun _ => rfl) (fun _ => ⟨rfl,rfl⟩) (fun h => by cases h)
        · k_steps
          all_goals exact midL_of [] (by k_asm) (by k_asm) (by assumption) (by omega) (fun z h1 h2 h3 h4 h5 h6 h7 h8z => by dsimp only [lawFr]; simp only [if_neg h1,if_neg h2,if_neg h3,if_neg h4,if_neg h5,if_neg h6,if_neg h7,if_neg h8z]) rfl rfl rfl rfl rfl (by k_mem) (by k_mem) (fun _ h => nomatch h) (by exact cD) (by exact cM) rfl rfl rfl (by first | exact flip_t (by assumption) (by tb_start) | exact flip_f (by assumption)) iA iB ic (by rw [List.length_map,List.length_range]) (by tb_start) (by tb_start) (by tb_start) (by tb_start) (by tb_start) (by tb_start) (by tb_start) (by tb_start) (by tb_start) (fun h => by omega) (fun h => by omega) (fun h => by omega)
    · clear iA iB cD cM hu0 hj0 h1'
      (intro s'; rintro ⟨h5,tk5,v6',v7',fv',tf',va',vb',cm',led5,kv,uv,sp,jv,mv',t1,t2,t3,t4,t5,t6,t7,l3,n3,os3,oc,XF,rfl,F5',N5',W5,cD,cM,cU,cI,cS,iA,iB,i3,ol,hu,hj,hm,hsp,k0,y1,y2,y3⟩)
      subst hK
      obtain ⟨T'z,D',R1,R2,I',hHas,hWr,hTo,hRd⟩ :=turn_law (ord :=ord) (tn :=tn) (kind :=kv) (sp :=sp) (oc :=oc) (m :=mv'.toNat) (j :=jv.toNat) O S (by omega) hu (by omega) (by omega) hsp.1 hsp.2 ol y1 (fun e => ⟨(y2 e).1,by have :=(y2 e).2; omega⟩)
      have ql :=O.ql
      have lD :=S.inv.len
      have lX :=exL_len (tn :=tn) O.ql O.qo lD 8 (Nat.le_refl _)
      have lD' :=I'.len
      have lX' :=exL_len (tn :=tn) O.ql O.qo lD' 8 (Nat.le_refl _)
      have hfu :=flip_user (tn :=tn) hu
      have qj :=O.to (k :=jv.toNat) (by omega)
      have qm :=O.to (k :=mv'.toNat) (by omega)
      have oj :=ord_at O.ql O.qo (j :=jv.toNat) (by omega)
      have om :=ord_at O.ql O.qo (j :=mv'.toNat) (by omega)
      have hmA :∀ row,firstX (findF D' uv (nms.getD jv.toNat [])) (sp / 64) = some row → ∀ k :Nat,0 ≤ row.2.map.getD k 0 ∧ row.2.map.getD k 0 < 11 :=fun row hr q => by
        have :=map_at (I'.first (by omega) hr) q
        omega
      have hmB :∀ row,firstX (findF (exL ord tn D' 8) (flipU tn uv) (nms.getD (ord.getD jv.toNat 0).toNat [])) (sp / 64) = some row → ∀ k :Nat,0 ≤ row.2.map.getD k 0 ∧ row.2.map.getD k 0 < 11 :=fun row hr q => by
        have e :=first_ex (tn :=tn) (x :=sp / 64) O I'.octD hu (show jv.toNat < 3 by omega)
        rw [show firstX (findF (exL ord tn D' 8) (flipU tn uv) (nm (to ord jv.toNat))) (sp / 64) = some row from hr] at e
        obtain ⟨row',h1,h2⟩ :=Option.map_eq_some_iff.mp e.symm
        have :=hmA row' h1 q
        rw [← h2]
        exact this
      have nj :(nms.getD jv.toNat []).length = 11 :=nms_len (by omega)
      have nm' :(nms.getD mv'.toNat []).length = 11 :=nms_len (by omega)
      have nj2 :(nms.getD (ord.getD jv.toNat 0).toNat []).length = 11 :=nms_len qj
      have nm2 :(nms.getD (ord.getD mv'.toNat 0).toNat []).length = 11 :=nms_len qm
      dsimp only
      refine law_split1 (nms.getD jv.toNat []) (nms.getD mv'.toNat []) (nms.getD (ord.getD jv.toNat 0).toNat []) (nms.getD (ord.getD mv'.toNat 0).toNat []) F5' W5 ?_ ?_
      · k_steps
        dsimp only
        refine ⟨_,_,_,_,_,_,_,_,_,_,_,_,_,_,_,_,_,rfl,by with_reducible assumption,by with_reducible assumption,by with_reducible assumption,by with_reducible assumption,by with_reducible assumption,by with_reducible assumption,by with_reducible assumption⟩
      clear F5' N5' W5
      (intro s6; rintro ⟨h5,tk5,led5,lr,r0,r1,r2,r3,nr,n0,n1,n2,n3',ws0,ws1,ws2,ws3,rfl,F5,N5,W5,i0,i1,i2,i4⟩)
      dsimp only
      k_steps
      refine ⟨?_⟩
      rename LW _ _ _ _ _ _ _ _ _ _ => W6
      k_dflt (refine LW.deedA W6 ok (by k_asm) (by k_asm) gh (by ktr_unf) sg (lv_use lv (by decide)) rfl rfl gL g8 iA lD (by k_mem) (by assumption) nj (by k_mem) (by assumption) nm' (by k_mem) i3 ol hu hsp k0 R1 ?_)
      intro v6 h6 tk6 led6 va6 iT1 F6 N6 W7 iA6
      dsimp only
      k_steps
      refine ⟨?_⟩
      rename LW _ _ _ _ _ _ _ _ _ _ => W8z
      k_dflt (refine LW.deedB W8z ok (by k_asm) (by k_asm) gh (by ktr_unf) sg (lv_use lv (by decide)) rfl rfl gL g8 iB lX (by k_mem) (by assumption) nj2 (by k_mem) (by assumption) nm2 (by k_mem) i3 ol hfu hsp k0 R2 ?_)
      intro v7 h7 tk7 led7 vb7 iT2 F7 N7 W9 iB7
      clear iA iB lD lX R1 R2 S
      dsimp only
      k_steps
      refine ⟨?_⟩
      rename LW _ _ _ _ _ _ _ _ _ _ => W10
      k_dflt (refine LW.exch W10 ok (by k_asm) (by k_asm) gh (by ktr_unf) sg (lv_use lv (by decide)) iA6 lD' hO O.ql O.qo ?_)
      clear W10
      intro x8z n8' ws8 h8' tk8' led8' iE8 F8z N8z W8z
      have mb1 :(b.d,instObj 53 b.dd) ∈ led8' :=W8z.fix (b.d,instObj 53 b.dd) (by simp [fixL])
      have mb2 :(b.dd,dictOf (diskD w.params b) 7) ∈ led8' :=W8z.fix (b.dd,dictOf (diskD w.params b) 7) (by simp [fixL])
      dsimp only
      k_steps
      refine ⟨?_⟩
      rename LW _ _ _ _ _ _ _ _ _ _ => W12
      refine ke_ne_ints (News.isList N8z (W12.ex _ List.mem_cons_self).1) (News.isList N8z W12.mb) iE8 iB7 (by have q9z :=lv.2; show _ + 64 < 9900; simp only [Around.deeper,AR]; omega) ?_
      rw [decide_eq_true rfl]
      clear mb1 mb2 iE8
      dsimp only
      k_steps
      refine ⟨?_⟩
      rename LW _ _ _ _ _ _ _ _ _ _ => W11
      k_dflt (refine LW.lam W11 ok (by k_asm) (by k_asm) T X rfl rfl rfl rfl ?_)
      clear W11
      intro f9 c9 ctv9 h9z tk9z led9 F9z N9z W9 st9 sub9 mf9 hrec9 nf9
      clear st9 sub9 nf9
      dsimp only
      k_steps
      refine ⟨?_⟩
      refine LW.told (x :=readF D' uv (nms.getD jv.toNat []) sp) F9z N9z gh (by ktr_unf) (lv_use lv (by decide)) rfl rfl gL mf9 ⟨_,rfl⟩ ?_ ?_
      · intro env₂ h₁ tk₁ I₁
        obtain ⟨z1,y1,x1⟩ :=W9.cel (Str.ofString "disk") (L + 2) (by simp [lawCells])
        obtain ⟨z2,y2,x2⟩ :=W9.cel (Str.ofString "user") (L + 7) (by simp [lawCells])
        obtain ⟨z3,y3,x3⟩ :=W9.cel (Str.ofString "raws") (L + 5) (by simp [lawCells])
        obtain ⟨z4,y4,x4⟩ :=W9.cel (Str.ofString "spot") (L + 6) (by simp [lawCells])
        have m3 :=(N9z _ (W9.ex (lr,listOf [Value.ref r0,.ref r1,.ref r2,.ref r3].toArray nr) (by k_mem)).1).1
        have m4 :=(W9.ex (r0,listOf ws0.toArray n0) (by k_mem)).1
        have hn9 :HN G h₁ led9 :=fun p hp => ⟨I₁.st _ _ (N9z p hp).1,((HN.of N9z sg) p hp).2⟩
        have st9 :Stay G h₁ :=fun b o e => I₁.st _ _ (F9z.keep _ _ (sg _ _ e))
        have ho9 :=I₁.st _ _ (N9z _ mf9).1
        have hr9 :=hrec9.keeps I₁.st
        have dm9 :=W9.da iA6 lD'
        rw [if_neg (by decide)] at x1 x2 x4
        rw [if_pos rfl] at x3
        rw [cD] at x1
        rw [cU] at x2
        rw [cS] at x4
        clear W9 T X
        exact lam_readA (a :=a) (c1 :=L + 2) (c2 :=L + 7) (c3 :=L + 5) (c4 :=L + 6) (lr :=lr) (r0 :=r0) (r1 :=r1) (r2 :=r2) (r3 :=r3) (nr :=nr) (n :=n0) gh st9 (lv_use (lv_use lv (by decide :38 + 1 ≤ 40)) (by decide :12 + 1 ≤ 38)) I₁.S I₁.hG ho9 hr9
          (I₁.st _ _ (N9z _ y1).1) x1 (I₁.st _ _ (N9z _ y2).1) x2 (I₁.st _ _ (N9z _ y3).1) x3 (I₁.st _ _ (N9z _ y4).1) x4 (I₁.st _ _ m3) hn9 dm9 m4 i0 nj (by omega) hsp.1 hsp.2 hmA I₁.st
      intro v8z tl3 h10 tk10 hV3 F10 N10 lt10
      have W13 :=LW.gain W9 ok N10 lt10
      clear W9 N9z F9z mf9 hrec9 lt10 hmA
      dsimp only
      k_steps
      refine ⟨?_⟩
      rename LW _ _ _ _ _ _ _ _ _ _ => W14
      k_dflt (refine LW.lam W14 ok (by k_asm) (by k_asm) T X rfl rfl rfl rfl ?_)
      clear W14
      intro f9 c9 ctv9 h11 tk11 led11 F9z N9z W9 st9 sub9 mf9 hrec9 nf9
      clear st9 sub9 nf9
      dsimp only
      k_steps
      refine ⟨?_⟩
      refine LW.told (x :=readF (exL ord tn D' 8) (flipU tn uv) (nms.getD (ord.getD jv.toNat 0).toNat []) sp) F9z N9z gh (by ktr_unf) (lv_use lv (by decide)) rfl rfl gL mf9 ⟨_,rfl⟩ ?_ ?_
      · intro env₂ h₁ tk₁ I₁
        obtain ⟨z1,y1,x1⟩ :=W9.cel (Str.ofString "mate") (L + 4) (by simp [lawCells])
        obtain ⟨z2,y2,x2⟩ :=W9.cel (Str.ofString "its_user") (L + 3) (by simp [lawCells])
        obtain ⟨z3,y3,x3⟩ :=W9.cel (Str.ofString "raws") (L + 5) (by simp [lawCells])
        obtain ⟨z4,y4,x4⟩ :=W9.cel (Str.ofString "spot") (L + 6) (by simp [lawCells])
        have m3 :=(N9z _ (W9.ex (lr,listOf [Value.ref r0,.ref r1,.ref r2,.ref r3].toArray nr) (by k_mem)).1).1
        have m4 :=(W9.ex (r2,listOf ws2.toArray n2) (by k_mem)).1
        have hn9 :HN G h₁ led11 :=fun p hp => ⟨I₁.st _ _ (N9z p hp).1,((HN.of N9z sg) p hp).2⟩
        have st9 :Stay G h₁ :=fun b o e => I₁.st _ _ (F9z.keep _ _ (sg _ _ e))
        have ho9 :=I₁.st _ _ (N9z _ mf9).1
        have hr9 :=hrec9.keeps I₁.st
        have dm9 :=W9.db iB7 lX'
        rw [if_neg (by decide)] at x1 x2 x4
        rw [if_pos rfl] at x3
        rw [cM] at x1
        rw [cI] at x2
        rw [cS] at x4
        clear W9 T X
        exact lam_readB (a :=b) (c1 :=L + 4) (c2 :=L + 3) (c3 :=L + 5) (c4 :=L + 6) (lr :=lr) (r0 :=r0) (r1 :=r1) (r2 :=r2) (r3 :=r3) (nr :=nr) (n :=n2) gh st9 (lv_use (lv_use lv (by decide :38 + 1 ≤ 40)) (by decide :12 + 1 ≤ 38)) I₁.S I₁.hG ho9 hr9
          (I₁.st _ _ (N9z _ y1).1) x1 (I₁.st _ _ (N9z _ y2).1) x2 (I₁.st _ _ (N9z _ y3).1) x3 (I₁.st _ _ (N9z _ y4).1) x4 (I₁.st _ _ m3) hn9 dm9 m4 i2 nj2 (by omega) hsp.1 hsp.2 hmB I₁.st
      intro v9 tl4 h12 tk12 hV4 F12 N12 lt12
      have W15 :=LW.gain W9 ok N12 lt12
      clear W9 N9z F9z mf9 hrec9 lt12 hmB
      rw [hRd] at hV4
      dsimp only
      k_steps
      refine ⟨?_⟩
      refine read_ne hV3 hV4 N12 (fun p hp => (W15.ex p (List.mem_append_right _ (List.mem_append_left _ hp))).1) (fun p hp => List.mem_append_left _ hp) (by have q9z :=lv.2; show _ + 64 < 9900; simp only [Around.deeper,AR]; omega) ?_
      (try dsimp only)
      k_steps
      · refine ⟨?_⟩
        refine told_is iT1 (fun eT => ?_) (fun nT => ?_)
        · have hx :=hWr (by omega) (by omega) eT
          rw [show readF D' uv (nms.getD jv.toNat []) sp = some oc from hx] at hV3
          obtain ⟨x9z,ws9z,n9z,rfl,rfl,hI9z⟩ :=hV3
          (try dsimp only)
          k_steps
          refine ⟨?_⟩
          refine ke_ne_ints (News.isList N12 (W15.ex (x9z,listOf ws9z.toArray n9z) (by simp)).1) (News.isList N12 (W15.ex (l3,listOf os3.toArray n3) (by simp)).1) hI9z i3 (by have q9z :=lv.2; show _ + 64 < 9900; simp only [Around.deeper,AR]; omega) ?_
          rw [decide_eq_true rfl]
          (try dsimp only)
          k_steps
          all_goals first
            | exact turnE_end (jv :=jv) (uv :=uv) F12 N12 W15 ok bI rfl (fun z h1 h2 h3 h4 h5 h6 h7 h8z => by dsimp only [lawFr]; simp only [if_neg h1,if_neg h2,if_neg h3,if_neg h4,if_neg h5,if_neg h6,if_neg h7,if_neg h8z]) (by simp) ((if_neg (by decide)).trans cD) ((if_neg (by decide)).trans cM) iA6 iB7 I' hHas hu hj (fun e => by obtain ⟨T9,t9z,t9',e1,e2⟩ :=y3 e; exact ⟨T9,t9z,t9',e1,by simp [e2]⟩)
            | (refine ⟨?_⟩
               refine told_isnt (by rw [← eT]; exact iT1) ?_
               (try dsimp only)
               k_steps
               all_goals exact turnE_end (jv :=jv) (uv :=uv) F12 N12 W15 ok bI rfl (fun z h1 h2 h3 h4 h5 h6 h7 h8z => by dsimp only [lawFr]; simp only [if_neg h1,if_neg h2,if_neg h3,if_neg h4,if_neg h5,if_neg h6,if_neg h7,if_neg h8z]) (by simp) ((if_neg (by decide)).trans cD) ((if_neg (by decide)).trans cM) iA6 iB7 I' hHas hu hj (fun e => by obtain ⟨T9,t9z,t9',e1,e2⟩ :=y3 e; exact ⟨T9,t9z,t9',e1,by simp [e2]⟩))
        · (try dsimp only)
          k_steps
          all_goals first
            | exact turnE_end (jv :=jv) (uv :=uv) F12 N12 W15 ok bI rfl (fun z h1 h2 h3 h4 h5 h6 h7 h8z => by dsimp only [lawFr]; simp only [if_neg h1,if_neg h2,if_neg h3,if_neg h4,if_neg h5,if_neg h6,if_neg h7,if_neg h8z]) (by simp) ((if_neg (by decide)).trans cD) ((if_neg (by decide)).trans cM) iA6 iB7 I' hHas hu hj (fun e => by obtain ⟨T9,t9z,t9',e1,e2⟩ :=y3 e; exact ⟨T9,t9z,t9',e1,by simp [e2]⟩)
            | exact absurd (hTo (by omega)) nT
      · exact turnE_end (jv :=jv) (uv :=uv) F12 N12 W15 ok bI rfl (fun z h1 h2 h3 h4 h5 h6 h7 h8z => by dsimp only [lawFr]; simp only [if_neg h1,if_neg h2,if_neg h3,if_neg h4,if_neg h5,if_neg h6,if_neg h7,if_neg h8z]) (by simp) ((if_neg (by decide)).trans cD) ((if_neg (by decide)).trans cM) iA6 iB7 I' hHas hu hj (fun e => by obtain ⟨T9,t9z,t9',e1,e2⟩ :=y3 e; exact ⟨T9,t9z,t9',e1,by simp [e2]⟩)
      · exact turnE_end (jv :=jv) (uv :=uv) F12 N12 W15 ok bI rfl (fun z h1 h2 h3 h4 h5 h6 h7 h8z => by dsimp only [lawFr]; simp only [if_neg h1,if_neg h2,if_neg h3,if_neg h4,if_neg h5,if_neg h6,if_neg h7,if_neg h8z]) (by simp) ((if_neg (by decide)).trans cD) ((if_neg (by decide)).trans cM) iA6 iB7 I' hHas hu hj (fun e => by obtain ⟨T9,t9z,t9',e1,e2⟩ :=y3 e; exact ⟨T9,t9z,t9',e1,by simp [e2]⟩)
  · (intro m₁ nw h tk; rintro ⟨u1,u2,u3,u4,u5,u6,u7,u8z,u9z,u10,u11,u12,u13,u14,u15,_,W,_⟩; intro F'z N'z)
    clear F5 N5
    replace F'z :Fr g L h _ :=F'z
    replace N'z :News g L h _ :=N'z
    obtain ⟨p8,t8z,_⟩ :=W.t8
    obtain ⟨p0,t0,_⟩ :=W.t0
    have hb9 :LawPost s (.bool true) { s with heap :=h,toks :=tk } :=⟨rfl,rfl,rfl,fun b o e n1 n2 => F'z.keep _ _ (kp _ _ e (by simp only [List.mem_cons,List.not_mem_nil,or_false]; exact fun q => q.elim n1 n2)),⟨_,(N'z _ t8z).1⟩,⟨_,(N'z _ t0).1⟩⟩
    clear W t8z t0
    dsimp only
    k_steps
    exact hb9
  · exact ⟨_,_,_,_,_,_,_,_,tf,va,vb,_,List.replicate 1408 229,0,0,lawFr_of (fun _ _ _ _ _ _ _ _ _ => rfl),W4.less (fun _ h => nomatch h),by rw [hK]; rfl,by rw [hK]; rfl,ia,by rw [ex0 O]; exact ib,⟨inv0,fun h => by omega,fun _ => rfl⟩,⟨by decide,by decide⟩,by decide,fun h => by omega⟩
theorem law_ok {sl :Nat} {ws :List Value} {sc :List Int} :law_ok_Q w dp un gd s mg mb G sl ws sc :=law_ok_L w dp un gd s mg mb G sl ws sc
end
theorem kw131 :True :=by
  (k_with "mCompSrc" => (refine toStop ?_))
  (k_with "mRangeRest" => (refine toStop ?_))
  (k_with "mcall ref" => (refine toStop ?_))
  (k_with "mcallWith ref" => (refine toStop ?_))
  (k_with "mcompareOp Is" => (refine toStop ?_))
  (k_with "mcompareOp IsNot" => (refine toStop ?_))
  (k_with "mcompareOp NotEq" => (refine toStop ?_))
  (k_with "mcompareOp NotEq ref ref" => (refine toStop ?_))
  (k_with "meval Lambda" => (refine toStop ?_))
  (k_with "meval Name" => (refine toStop ?_))
  (k_with "mexec Assign cons ListComp" => (refine toStop ?_))
  (k_with "mexec For Tuple Call" => (refine toStop ?_))
  (k_with "mpyIter ref" => (refine toStop ?_))
  (k_with "msetItem ref int" => (refine toStop ?_))
  (k_with "mstoreName" => (refine toStop ?_))
  (k_with "msubscriptTail" => (refine toStop ?_))
  (k_with "msubscriptTail Call Name" => (refine toStop ?_))
  (k_with "msubscriptTail Call Subscript" => (refine toStop ?_))
  (k_with "msubscriptTail Name Constant ref int" => (refine toStop ?_))
  (k_with "msubscriptTail Name Name ref int" => (refine toStop ?_))
  trivial
end
section
section
theorem walkO :WalkO Mine.hd.view_39 [] (XL Mine.hd.view_39 []) Mine.hd.hk.says rw_tg0048_01.row.toRowW Mine.hd.lawRec [] fun f vs => PySem.call f vs :=by
  intros w s₀ s₁ mg mb G Y fa o pm cd doc dV kV ho hd hcd hD hmg hg args vals as hpre hlay hrd hwl hlo
  have KX :(Mine.hd.heap_39 w.params).In s₁.heap :=km_in_of Y
  have hT8 :=km_tabs_of Y
  refine Ground.open G ?_
  intros T B D TE TW
  have e1 :=mg_of KX T.g (n :=Mine.hd.lawRec.name) (v :=.ref 373) (by kernel_rfl)
  have hT9 :TabsAt [(362,358),(372,370)] s₁.heap :=List.forall_mem_cons.mpr ⟨⟨codeHd_of_K (c :=362) (P :=358) KX (by kernel_rfl),hT8 358 (by simp)⟩,List.forall_mem_cons.mpr ⟨⟨codeHd_of_K (c :=372) (P :=370) KX (by kernel_rfl),hT8 370 (by simp)⟩,fun _ h => nomatch h⟩⟩
  wrow_args hpre hlay hrd hwl hlo
  rename Heap.IsList _ _ _ => hL
  rename IntsAre _ _ => hI
  rename ¬ (_ < _) => hlen
  have hfa :fa = 373 :=by
    rw [hmg] at e1
    exact Value.ref.inj (Option.some.inj e1)
  subst hfa
  have gT :=ghost_top hT9 T
  have gK :=ghost_K hT9 KX (by kernel_rfl)
  have gh :GH w mg mb (ghostOf s₁.heap [(362,358),(372,370)]) :=⟨gK,_,_,gT⟩
  refine wpAny_mono (law_ok (dp :=1 + claimMargin) (un :=4) (gd :=some []) gh (fun b o e => of_hideAll _ e) (by decide) ⟨#[],hT8 358 (by simp),TabOk.nil⟩ ⟨#[],hT8 370 (by simp),TabOk.nil⟩ (hideAll_none _ (by simp)) (hideAll_none _ (by simp)) hL hI (by omega)) (fun v s' hv => ?_) (fun _ _ x => x.elim)
  obtain ⟨rfl,hos,hgens,hk,⟨p8,h8⟩,p0,h0⟩ :_ :=hv
  have tb :∀ b,b = 358 ∨ b = 370 → isCodeTable s₁.heap b :=fun b hb => by
    rcases hb with rfl | rfl
    · exact ((hT9 (362,358) (by simp)).1.tab (hT9 (362,358) (by simp)).2).isCodeTable
    · exact ((hT9 (372,370) (by simp)).1.tab (hT9 (372,370) (by simp)).2).isCodeTable
  refine ⟨.inl ⟨.bool true,.bool true,[],rfl,fun _ => rfl,.bool _,?_,fun _ => ⟨List.nodup_nil,fun _ h => nomatch h⟩⟩,⟨fun b o e => ?_,fun b o e => ?_⟩,hos,.of_eq (hgens.trans hg)⟩
  · wrow_post
  · by_cases b8 :b = 358
    · subst b8
      have e2 :=hT8 358 (by simp)
      rw [e] at e2
      cases e2
      exact .inr (.inl ⟨tb _ (.inl rfl),rfl,#[],p8,rfl,by rw [Array.empty_append]; exact h8⟩)
    · by_cases b0 :b = 370
      · subst b0
        have e2 :=hT8 370 (by simp)
        rw [e] at e2
        cases e2
        exact .inr (.inl ⟨tb _ (.inr rfl),rfl,#[],p0,rfl,by rw [Array.empty_append]; exact h0⟩)
      · exact .inl (hk _ _ e b8 b0)
  · by_cases b8 :b = 358
    · subst b8; exact ⟨_,h8⟩
    · by_cases b0 :b = 370
      · subst b0; exact ⟨_,h0⟩
      · exact ⟨o,hk _ _ e b8 b0⟩
end
end
end EMB
end Mine
open PySem PySem.W PySem.Calls PyProof.Rows
theorem PySem.Challenge.cw_tg0048_01_holds : PySem.Challenge.rw_tg0048_01.Holds := by
  exact Mine.hd.join Mine.walkO
