import PyProof.Rows.All
import Wide.All
import OpenK.AllK
import Wide.FinOn
import Lean
import PySem.Challenge.RW_pc0145_01
open PySem PySem.W PySem.Calls PyProof.Rows
set_option Elab.async false
set_option compiler.extract_closed false
namespace Mine
/-- the program's statements, by their places -/
noncomputable def st (i : Nat) : Stmt := PySem.Challenge.pw_pc0145_01.main.body.getD i default
noncomputable def sm (i j : Nat) : Stmt := match st i with | .ClassDef _ _ _ b _ _ _ _ _ _ _ => b.getD j default | _ => default
noncomputable def fd (s : Stmt) (q : Str) (g : Addr) (cl : List (Str × Addr)) (df kd dc pm : Value) (an : Option Addr) (cd ct : Value) (bl : Addr) : FuncData := match s with | .FunctionDef n a b _ _ _ sc _ _ _ => ⟨n, q, a, .stmts b, sc, g, cl, df, kd, dc, pm, an, cd, ct, bl⟩ | _ => default
noncomputable abbrev de (P : Params) (x : String) (t : Nat) (v : Value) : DictEntry := ⟨PyData.keyHash P (.ofString x), .str (.ofString x) t, v⟩
set_option maxRecDepth 100000 in
/-- what the module's top leaves, for the law's call -/
noncomputable def hd.heap_39 (P : Params) : Frag :=
  (nat_lit 0, ⟨(.type "dict"), none, (.dict #[de P "__name__" 1 (.str (.ofString "builtins") 160), de P "__doc__" 2 (.builtin "builtins.__doc__:str#opaque"), de P "__package__" 3 (.builtin "builtins.__package__:str#opaque"), de P "__loader__" 4 (.builtin "builtins.__loader__:shared#opaque"), de P "__spec__" 5 (.builtin "builtins.__spec__#opaque"), de P "__build_class__" 6 (.builtin "__build_class__"), de P "__import__" 7 (.builtin "__import__"), de P "abs" 8 (.builtin "abs"), de P "all" 9 (.builtin "all"), de P "any" 10 (.builtin "any"), de P "ascii" 11 (.builtin "ascii"), de P "bin" 12 (.builtin "bin"), de P "breakpoint" 13 (.builtin "breakpoint"), de P "callable" 14 (.builtin "callable"), de P "chr" 15 (.builtin "chr"), de P "compile" 16 (.builtin "compile"), de P "delattr" 17 (.builtin "delattr"), de P "dir" 18 (.builtin "dir"), de P "divmod" 19 (.builtin "divmod"), de P "eval" 20 (.builtin "eval"), de P "exec" 21 (.builtin "exec"), de P "format" 22 (.builtin "format"), de P "getattr" 23 (.builtin "getattr"), de P "globals" 24 (.builtin "globals"), de P "hasattr" 25 (.builtin "hasattr"), de P "hash" 26 (.builtin "hash"), de P "hex" 27 (.builtin "hex"), de P "id" 28 (.builtin "id"), de P "input" 29 (.builtin "input"), de P "isinstance" 30 (.builtin "isinstance"), de P "issubclass" 31 (.builtin "issubclass"), de P "iter" 32 (.builtin "iter"), de P "aiter" 33 (.builtin "aiter"), de P "len" 34 (.builtin "len"), de P "locals" 35 (.builtin "locals"), de P "max" 36 (.builtin "max"), de P "min" 37 (.builtin "min"), de P "next" 38 (.builtin "next"), de P "anext" 39 (.builtin "anext"), de P "oct" 40 (.builtin "oct"), de P "ord" 41 (.builtin "ord"), de P "pow" 42 (.builtin "pow"), de P "print" 43 (.builtin "print"), de P "repr" 44 (.builtin "repr"), de P "round" 45 (.builtin "round"), de P "setattr" 46 (.builtin "setattr"), de P "sorted" 47 (.builtin "sorted"), de P "sum" 48 (.builtin "sum"), de P "vars" 49 (.builtin "vars"), de P "None" 50 .none, de P "Ellipsis" 51 .ellipsis, de P "NotImplemented" 52 .notImplemented, de P "False" 53 (.bool false), de P "True" 54 (.bool true), de P "bool" 55 (.type "bool"), de P "memoryview" 56 (.type "memoryview"), de P "bytearray" 57 (.type "bytearray"), de P "bytes" 58 (.type "bytes"), de P "classmethod" 59 (.type "classmethod"), de P "complex" 60 (.type "complex"), de P "dict" 61 (.type "dict"), de P "enumerate" 62 (.type "enumerate"), de P "filter" 63 (.type "filter"), de P "float" 64 (.type "float"), de P "frozenset" 65 (.type "frozenset"), de P "property" 66 (.type "property"), de P "int" 67 (.type "int"), de P "list" 68 (.type "list"), de P "map" 69 (.type "map"), de P "object" 70 (.type "object"), de P "range" 71 (.type "range"), de P "reversed" 72 (.type "reversed"), de P "set" 73 (.type "set"), de P "slice" 74 (.type "slice"), de P "staticmethod" 75 (.type "staticmethod"), de P "str" 76 (.type "str"), de P "super" 77 (.type "super"), de P "tuple" 78 (.type "tuple"), de P "type" 79 (.type "type"), de P "zip" 80 (.type "zip"), de P "__debug__" 81 (.bool true), de P "BaseException" 82 (.type "BaseException"), de P "BaseExceptionGroup" 83 (.type "BaseExceptionGroup"), de P "Exception" 84 (.type "Exception"), de P "GeneratorExit" 85 (.type "GeneratorExit"), de P "KeyboardInterrupt" 86 (.type "KeyboardInterrupt"), de P "SystemExit" 87 (.type "SystemExit"), de P "ArithmeticError" 88 (.type "ArithmeticError"), de P "AssertionError" 89 (.type "AssertionError"), de P "AttributeError" 90 (.type "AttributeError"), de P "BufferError" 91 (.type "BufferError"), de P "EOFError" 92 (.type "EOFError"), de P "ImportError" 93 (.type "ImportError"), de P "LookupError" 94 (.type "LookupError"), de P "MemoryError" 95 (.type "MemoryError"), de P "NameError" 96 (.type "NameError"), de P "OSError" 97 (.type "OSError"), de P "ReferenceError" 98 (.type "ReferenceError"), de P "RuntimeError" 99 (.type "RuntimeError"), de P "StopAsyncIteration" 100 (.type "StopAsyncIteration"), de P "StopIteration" 101 (.type "StopIteration"), de P "SyntaxError" 102 (.type "SyntaxError"), de P "SystemError" 103 (.type "SystemError"), de P "TypeError" 104 (.type "TypeError"), de P "ValueError" 105 (.type "ValueError"), de P "Warning" 106 (.type "Warning"), de P "FloatingPointError" 107 (.type "FloatingPointError"), de P "OverflowError" 108 (.type "OverflowError"), de P "ZeroDivisionError" 109 (.type "ZeroDivisionError"), de P "BytesWarning" 110 (.type "BytesWarning"), de P "DeprecationWarning" 111 (.type "DeprecationWarning"), de P "EncodingWarning" 112 (.type "EncodingWarning"), de P "FutureWarning" 113 (.type "FutureWarning"), de P "ImportWarning" 114 (.type "ImportWarning"), de P "PendingDeprecationWarning" 115 (.type "PendingDeprecationWarning"), de P "ResourceWarning" 116 (.type "ResourceWarning"), de P "RuntimeWarning" 117 (.type "RuntimeWarning"), de P "SyntaxWarning" 118 (.type "SyntaxWarning"), de P "UnicodeWarning" 119 (.type "UnicodeWarning"), de P "UserWarning" 120 (.type "UserWarning"), de P "BlockingIOError" 121 (.type "BlockingIOError"), de P "ChildProcessError" 122 (.type "ChildProcessError"), de P "ConnectionError" 123 (.type "ConnectionError"), de P "FileExistsError" 124 (.type "FileExistsError"), de P "FileNotFoundError" 125 (.type "FileNotFoundError"), de P "InterruptedError" 126 (.type "InterruptedError"), de P "IsADirectoryError" 127 (.type "IsADirectoryError"), de P "NotADirectoryError" 128 (.type "NotADirectoryError"), de P "PermissionError" 129 (.type "PermissionError"), de P "ProcessLookupError" 130 (.type "ProcessLookupError"), de P "TimeoutError" 131 (.type "TimeoutError"), de P "IndentationError" 132 (.type "IndentationError"), de P "_IncompleteInputError" 133 (.type "_IncompleteInputError"), de P "IndexError" 134 (.type "IndexError"), de P "KeyError" 135 (.type "KeyError"), de P "ModuleNotFoundError" 136 (.type "ModuleNotFoundError"), de P "NotImplementedError" 137 (.type "NotImplementedError"), de P "PythonFinalizationError" 138 (.type "PythonFinalizationError"), de P "RecursionError" 139 (.type "RecursionError"), de P "UnboundLocalError" 140 (.type "UnboundLocalError"), de P "UnicodeError" 141 (.type "UnicodeError"), de P "BrokenPipeError" 142 (.type "BrokenPipeError"), de P "ConnectionAbortedError" 143 (.type "ConnectionAbortedError"), de P "ConnectionRefusedError" 144 (.type "ConnectionRefusedError"), de P "ConnectionResetError" 145 (.type "ConnectionResetError"), de P "TabError" 146 (.type "TabError"), de P "UnicodeDecodeError" 147 (.type "UnicodeDecodeError"), de P "UnicodeEncodeError" 148 (.type "UnicodeEncodeError"), de P "UnicodeTranslateError" 149 (.type "UnicodeTranslateError"), de P "ExceptionGroup" 150 (.type "ExceptionGroup"), de P "EnvironmentError" 151 (.type "OSError"), de P "IOError" 152 (.type "OSError"), de P "open" 153 (.builtin "open"), de P "quit" 154 (.builtin "builtins.quit#opaque"), de P "exit" 155 (.builtin "builtins.exit#opaque"), de P "copyright" 156 (.builtin "builtins.copyright#opaque"), de P "credits" 157 (.builtin "builtins.credits#opaque"), de P "license" 158 (.builtin "builtins.license#opaque"), de P "help" 159 (.builtin "builtins.help#opaque")] 159), #[]⟩) ::
  (nat_lit 1, ⟨(.type "dict"), none, (.dict #[de P "builtins" 162 (.ref 4), de P "__main__" 163 (.ref 5)] 2), #[]⟩) ::
  (nat_lit 2, ⟨.none, none, (.dict #[de P "type.__subclasses__.Exception.0" 225 (.int 40 0), de P "type.__subclasses__.Exception.n" 226 (.int 1 0)] 2), #[]⟩) ::
  (nat_lit 3, ⟨(.type "dict"), none, (.dict #[de P "__name__" 165 (.str (.ofString "law_pc0145_01") 957), de P "__doc__" 166 .none, de P "__package__" 167 .none, de P "__loader__" 168 (.builtin "__main__.__loader__#opaque"), de P "__spec__" 169 .none, de P "__annotations__" 170 (.ref 6), de P "__builtins__" 171 (.ref 4), de P "__file__" 173 (.str (.ofString "/claim/cut.py") 172), de P "__cached__" 174 .none, de P "LedgerError" 228 (.ref 40), de P "PictureFault" 244 (.ref 53), de P "DataFault" 260 (.ref 65), de P "RunFault" 276 (.ref 77), de P "USAGES" 280 (.str (.ofString "display packed binary index") 279), de P "MOST_DIGITS_shapes" 282 (.int 18 281), de P "Shape" 347 (.ref 111), de P "has_units" 354 (.ref 122), de P "unit_bound" 361 (.ref 129), de P "binary_width" 368 (.ref 136), de P "packed_width" 375 (.ref 143), de P "size_for" 384 (.ref 150), de P "check_usage" 392 (.ref 157), de P "check_sign" 402 (.ref 164), de P "check_clauses" 408 (.ref 169), de P "shape_of" 423 (.ref 177), de P "NOUGHT" 427 (.int 48 426), de P "PLUS" 429 (.int 43 428), de P "MINUS" 431 (.int 45 430), de P "PLUS_FIGURES" 433 (.bytes #[123, 65, 66, 67, 68, 69, 70, 71, 72, 73] 432), de P "MINUS_FIGURES" 435 (.bytes #[125, 74, 75, 76, 77, 78, 79, 80, 81, 82] 434), de P "PACKED_PLUS" 437 (.int 12 436), de P "PACKED_MINUS" 439 (.int 13 438), de P "PACKED_PLAIN" 441 (.int 15 440), de P "kept_units" 450 (.ref 184), de P "figures_for" 461 (.ref 191), de P "display_octets" 467 (.ref 196), de P "packed_octets" 473 (.ref 201), de P "binary_octets" 484 (.ref 208), de P "octets_for" 493 (.ref 215), de P "joined_figures" 503 (.ref 222), de P "signed_figure" 510 (.ref 229), de P "display_units" 516 (.ref 234), de P "packed_units" 528 (.ref 241), de P "binary_units" 538 (.ref 248), de P "units_in" 547 (.ref 255), de P "key_worth" 560 (.ref 262), de P "goes_ahead" 572 (.ref 269), de P "merged_pair" 584 (.ref 276), de P "merged_rows" 594 (.ref 283), de P "is_in_order" 603 (.ref 290), de P "fitted" 611 (.ref 297), de P "SIGNS" 615 (.str (.ofString "ABPSVXZ90/,.+-*$") 614), de P "TEXT_SIGNS" 617 (.str (.ofString "A X 9 B 0 /") 616), de P "PLAIN_SIGNS" 619 (.str (.ofString "9 P S V") 618), de P "LAID_NOWHERE" 621 (.str (.ofString "P S V") 620), de P "ALONE" 623 (.str (.ofString "S V . CR DB") 622), de P "FIGURES" 625 (.str (.ofString "0123456789") 624), de P "MOST_TEXT" 627 (.int 30 626), de P "MOST_DIGITS_pictures" 629 (.int 18 628), de P "MOST_SIZE" 631 (.int 9999 630), de P "Picture" 685 (.ref 326), de P "Sign" 725 (.ref 354), de P "sign_at" 733 (.ref 365), de P "count_at" 739 (.ref 370), de P "signs_of" 751 (.ref 377), de P "symbols_of" 760 (.ref 384), de P "size_of_symbols" 766 (.ref 389), de P "Order" 928 (.ref 511), de P "number_picture" 934 (.ref 520), de P "text_category" 940 (.ref 525), de P "text_picture" 950 (.ref 532), de P "read_picture" 956 (.ref 537), de P "_law_is_ahead" 969 (.ref 544), de P "_law_in_order" 975 (.ref 549), de P "law" 981 (.ref 554)] 75), #[]⟩) ::
  (nat_lit 4, ⟨(.type "module"), (some 0), .plain, #[]⟩) ::
  (nat_lit 5, ⟨(.type "module"), (some 3), .plain, #[]⟩) ::
  (nat_lit 6, ⟨(.type "dict"), none, (.dict #[] 0), #[]⟩) ::
  (nat_lit 7, ⟨(.type "tuple"), none, (.seq #[] 0), #[]⟩) ::
  (nat_lit 8, ⟨.none, none, (.fields #[]), #[]⟩) ::
  (nat_lit 9, ⟨(.type "code"), none, (.fields #[(.str (.ofString "<module>") 176), (.str (.ofString "<module>") 177), (.str (.ofString "/claim/cut.py") 178), (.int 1 0), (.int 0 0), (.int 0 0), (.int 0 0), (.int 0 0), (.ref 7), (.bool false), (.int 175 0), (.ref 8), .none, .none, .none, .none, (.int 179 0), (.int 1 0), (.str (.ofString "/claim/cut.py") 180)]), #[]⟩) ::
  (nat_lit 10, ⟨(.type "frame"), none, .plain, #[(some (.ref 9)), (some (.ref 3)), (some (.ref 3)), none, (some (.str (.ofString "__main__") 164)), none, (some (.ref 0))]⟩) ::
  (nat_lit 11, ⟨(.type "tuple"), none, (.seq #[] 0), #[]⟩) ::
  (nat_lit 12, ⟨.none, none, (.fields #[(.int 2 0), (.int 0 0), (.ref 20), (.int 11 0), (.int 0 0), (.ref 49), (.int 13 0), (.int 0 0), (.ref 61), (.int 15 0), (.int 0 0), (.ref 73), (.int 20 0), (.int 0 0), (.ref 85), (.int 49 0), (.int 0 0), (.ref 121), (.int 51 0), (.int 0 0), (.ref 128), (.int 53 0), (.int 0 0), (.ref 135), (.int 59 0), (.int 0 0), (.ref 142), (.int 63 0), (.int 0 0), (.ref 149), (.int 69 0), (.int 0 0), (.ref 156), (.int 76 0), (.int 0 0), (.ref 163), (.int 83 0), (.int 0 0), (.ref 168), (.int 90 0), (.int 0 0), (.ref 176), (.int 105 0), (.int 0 0), (.ref 183), (.int 108 0), (.int 0 0), (.ref 190), (.int 114 0), (.int 0 0), (.ref 195), (.int 125 0), (.int 0 0), (.ref 200), (.int 131 0), (.int 0 0), (.ref 207), (.int 137 0), (.int 0 0), (.ref 214), (.int 142 0), (.int 0 0), (.ref 221), (.int 149 0), (.int 0 0), (.ref 228), (.int 155 0), (.int 0 0), (.ref 233), (.int 167 0), (.int 0 0), (.ref 240), (.int 176 0), (.int 0 0), (.ref 247), (.int 183 0), (.int 0 0), (.ref 254), (.int 193 0), (.int 0 0), (.ref 261), (.int 197 0), (.int 0 0), (.ref 268), (.int 203 0), (.int 0 0), (.ref 275), (.int 213 0), (.int 0 0), (.ref 282), (.int 218 0), (.int 0 0), (.ref 289), (.int 223 0), (.int 0 0), (.ref 296), (.int 235 0), (.int 0 0), (.ref 303), (.int 251 0), (.int 0 0), (.ref 336), (.int 260 0), (.int 0 0), (.ref 364), (.int 266 0), (.int 0 0), (.ref 369), (.int 274 0), (.int 0 0), (.ref 376), (.int 284 0), (.int 0 0), (.ref 383), (.int 292 0), (.int 0 0), (.ref 388), (.int 294 0), (.int 0 0), (.ref 395), (.int 422 0), (.int 0 0), (.ref 519), (.int 432 0), (.int 0 0), (.ref 524), (.int 437 0), (.int 0 0), (.ref 531), (.int 445 0), (.int 0 0), (.ref 536), (.int 454 0), (.int 0 0), (.ref 543), (.int 459 0), (.int 0 0), (.ref 548), (.int 465 0), (.int 0 0), (.ref 553)]), #[]⟩) ::
  (nat_lit 13, ⟨(.type "code"), none, (.fields #[(.str (.ofString "<module>") 182), (.str (.ofString "<module>") 183), (.str (.ofString "/claim/cut.py") 184), (.int 1 0), (.int 0 0), (.int 0 0), (.int 0 0), (.int 0 0), (.ref 11), (.bool false), (.int 181 0), (.ref 12), .none, .none, .none, .none, (.int 185 0), (.int 1 0), (.str (.ofString "/claim/cut.py") 186)]), #[]⟩) ::
  (nat_lit 14, ⟨(.type "frame"), none, .plain, #[(some (.ref 13)), (some (.ref 3)), (some (.ref 3)), none, (some (.str (.ofString "__main__") 164)), none, (some (.ref 0))]⟩) ::
  (nat_lit 15, ⟨(.type "tuple"), none, (.seq #[(.type "Exception")] 0), #[]⟩) ::
  (nat_lit 22, ⟨(.type "tuple"), none, (.seq #[(.int 0 201), (.int 0 202)] 0), #[]⟩) ::
  (nat_lit 23, ⟨(.type "tuple"), none, (.seq #[(.ref 22)] 0), #[]⟩) ::
  (nat_lit 24, ⟨(.type "tuple"), none, (.seq #[] 0), #[]⟩) ::
  (nat_lit 25, ⟨.none, none, (.fields #[]), #[]⟩) ::
  (nat_lit 26, ⟨(.type "tuple"), none, (.seq #[(.str (.ofString "self") 206), (.str (.ofString "what") 207), (.str (.ofString "at") 208)] 0), #[]⟩) ::
  (nat_lit 27, ⟨(.type "tuple"), none, (.seq #[] 0), #[]⟩) ::
  (nat_lit 28, ⟨.none, none, (.func (fd (sm 1 0) (.ofString "LedgerError.__init__") 0 [] .none .none .none .none none .none .none 0)), #[]⟩) ::
  (nat_lit 29, ⟨(.type "code"), none, (.fields #[(.str (.ofString "__init__") 203), (.str (.ofString "LedgerError.__init__") 204), (.str (.ofString "/claim/cut.py") 205), (.int 4 0), (.int 3 0), (.int 0 0), (.int 0 0), (.int 3 0), (.ref 24), (.bool true), (.int 181 0), (.ref 25), .none, (.ref 26), (.ref 27), (.ref 28), (.int 209 0), (.int 4 0), (.str (.ofString "/claim/cut.py") 210)]), #[]⟩) ::
  (nat_lit 30, ⟨(.type "function"), none, (.func (fd (sm 1 0) (.ofString "LedgerError.__init__") 3 [] (.ref 23) .none .none (.str (.ofString "ledgerspeak.errors") 187) none (.ref 29) .none 0)), #[]⟩) ::
  (nat_lit 31, ⟨(.type "tuple"), none, (.seq #[] 0), #[]⟩) ::
  (nat_lit 32, ⟨.none, none, (.fields #[]), #[]⟩) ::
  (nat_lit 33, ⟨(.type "tuple"), none, (.seq #[(.str (.ofString "self") 215)] 0), #[]⟩) ::
  (nat_lit 34, ⟨(.type "tuple"), none, (.seq #[] 0), #[]⟩) ::
  (nat_lit 35, ⟨.none, none, (.func (fd (sm 1 1) (.ofString "LedgerError.told") 0 [] .none .none .none .none none .none .none 0)), #[]⟩) ::
  (nat_lit 36, ⟨(.type "code"), none, (.fields #[(.str (.ofString "told") 212), (.str (.ofString "LedgerError.told") 213), (.str (.ofString "/claim/cut.py") 214), (.int 9 0), (.int 1 0), (.int 0 0), (.int 0 0), (.int 3 0), (.ref 31), (.bool true), (.int 181 0), (.ref 32), .none, (.ref 33), (.ref 34), (.ref 35), (.int 216 0), (.int 9 0), (.str (.ofString "/claim/cut.py") 217)]), #[]⟩) ::
  (nat_lit 37, ⟨(.type "function"), none, (.func (fd (sm 1 1) (.ofString "LedgerError.told") 3 [] .none .none .none (.str (.ofString "ledgerspeak.errors") 187) none (.ref 36) .none 0)), #[]⟩) ::
  (nat_lit 38, ⟨(.type "tuple"), none, (.seq #[(.str (.ofString "at") 219), (.str (.ofString "what") 220)] 0), #[]⟩) ::
  (nat_lit 39, ⟨(.type "dict"), none, (.dict #[de P "__module__" 196 (.str (.ofString "ledgerspeak.errors") 187), de P "__firstlineno__" 200 (.int 2 199), de P "__init__" 211 (.ref 30), de P "told" 218 (.ref 37), de P "__static_attributes__" 221 (.ref 38), de P "__weakref__" 223 (.ref 41), de P "__doc__" 224 .none] 3), #[]⟩) ::
  (nat_lit 40, ⟨(.type "type"), none, (.cls ⟨(.ofString "LedgerError"), [(.type "Exception")], [(.ref 40), (.type "Exception"), (.type "BaseException"), (.type "object")], 39, (.ofString "LedgerError"), true, [], [(.ref 53), (.ref 65), (.ref 77)], false, none, false⟩), #[(some (.ref 15)), none, (some (.str (.ofString "LedgerError") 189)), (some (.str (.ofString "LedgerError") 197)), (some (.builtin "Exception.__new__")), (some (.bool true))]⟩) ::
  (nat_lit 41, ⟨(.type "getset_descriptor"), none, (.fields #[(.str (.ofString "__weakref__") 222), (.ref 40), (.builtin "ExceptionGroup.__weakref__"), .none]), #[]⟩) ::
  (nat_lit 44, ⟨(.type "tuple"), none, (.seq #[(.ref 40)] 0), #[]⟩) ::
  (nat_lit 51, ⟨(.type "tuple"), none, (.seq #[] 0), #[]⟩) ::
  (nat_lit 52, ⟨(.type "dict"), none, (.dict #[de P "__module__" 236 (.str (.ofString "ledgerspeak.errors") 187), de P "__firstlineno__" 240 (.int 11 239), de P "__static_attributes__" 241 (.ref 51), de P "__doc__" 242 .none] 2), #[]⟩) ::
  (nat_lit 53, ⟨(.type "type"), none, (.cls ⟨(.ofString "PictureFault"), [(.ref 40)], [(.ref 53), (.ref 40), (.type "Exception"), (.type "BaseException"), (.type "object")], 52, (.ofString "PictureFault"), true, [], [], false, none, false⟩), #[(some (.ref 44)), none, (some (.str (.ofString "PictureFault") 229)), (some (.str (.ofString "PictureFault") 237)), (some (.builtin "Exception.__new__")), (some (.bool true))]⟩) ::
  (nat_lit 56, ⟨(.type "tuple"), none, (.seq #[(.ref 40)] 0), #[]⟩) ::
  (nat_lit 63, ⟨(.type "tuple"), none, (.seq #[] 0), #[]⟩) ::
  (nat_lit 64, ⟨(.type "dict"), none, (.dict #[de P "__module__" 252 (.str (.ofString "ledgerspeak.errors") 187), de P "__firstlineno__" 256 (.int 13 255), de P "__static_attributes__" 257 (.ref 63), de P "__doc__" 258 .none] 2), #[]⟩) ::
  (nat_lit 65, ⟨(.type "type"), none, (.cls ⟨(.ofString "DataFault"), [(.ref 40)], [(.ref 65), (.ref 40), (.type "Exception"), (.type "BaseException"), (.type "object")], 64, (.ofString "DataFault"), true, [], [], false, none, false⟩), #[(some (.ref 56)), none, (some (.str (.ofString "DataFault") 245)), (some (.str (.ofString "DataFault") 253)), (some (.builtin "Exception.__new__")), (some (.bool true))]⟩) ::
  (nat_lit 68, ⟨(.type "tuple"), none, (.seq #[(.ref 40)] 0), #[]⟩) ::
  (nat_lit 75, ⟨(.type "tuple"), none, (.seq #[] 0), #[]⟩) ::
  (nat_lit 76, ⟨(.type "dict"), none, (.dict #[de P "__module__" 268 (.str (.ofString "ledgerspeak.errors") 187), de P "__firstlineno__" 272 (.int 15 271), de P "__static_attributes__" 273 (.ref 75), de P "__doc__" 274 .none] 2), #[]⟩) ::
  (nat_lit 77, ⟨(.type "type"), none, (.cls ⟨(.ofString "RunFault"), [(.ref 40)], [(.ref 77), (.ref 40), (.type "Exception"), (.type "BaseException"), (.type "object")], 76, (.ofString "RunFault"), true, [], [], false, none, false⟩), #[(some (.ref 68)), none, (some (.str (.ofString "RunFault") 261)), (some (.str (.ofString "RunFault") 269)), (some (.builtin "Exception.__new__")), (some (.bool true))]⟩) ::
  (nat_lit 87, ⟨(.type "tuple"), none, (.seq #[.none, (.str (.ofString "display") 295), (.str (.ofString "trailing") 296), (.bool false), (.bool false), (.bool false)] 0), #[]⟩) ::
  (nat_lit 88, ⟨(.type "tuple"), none, (.seq #[] 0), #[]⟩) ::
  (nat_lit 89, ⟨.none, none, (.fields #[]), #[]⟩) ::
  (nat_lit 90, ⟨(.type "tuple"), none, (.seq #[(.str (.ofString "self") 300), (.str (.ofString "category") 301), (.str (.ofString "size") 302), (.str (.ofString "picture") 303), (.str (.ofString "usage") 304), (.str (.ofString "sign") 305), (.str (.ofString "is_separate") 306), (.str (.ofString "is_justified") 307), (.str (.ofString "is_blank_zero") 308)] 0), #[]⟩) ::
  (nat_lit 91, ⟨(.type "tuple"), none, (.seq #[] 0), #[]⟩) ::
  (nat_lit 92, ⟨.none, none, (.func (fd (sm 8 0) (.ofString "Shape.__init__") 0 [] .none .none .none .none none .none .none 0)), #[]⟩) ::
  (nat_lit 93, ⟨(.type "code"), none, (.fields #[(.str (.ofString "__init__") 297), (.str (.ofString "Shape.__init__") 298), (.str (.ofString "/claim/cut.py") 299), (.int 22 0), (.int 9 0), (.int 0 0), (.int 0 0), (.int 3 0), (.ref 88), (.bool true), (.int 181 0), (.ref 89), .none, (.ref 90), (.ref 91), (.ref 92), (.int 309 0), (.int 22 0), (.str (.ofString "/claim/cut.py") 310)]), #[]⟩) ::
  (nat_lit 94, ⟨(.type "function"), none, (.func (fd (sm 8 0) (.ofString "Shape.__init__") 3 [] (.ref 87) .none .none (.str (.ofString "ledgerspeak.shapes") 277) none (.ref 93) .none 0)), #[]⟩) ::
  (nat_lit 95, ⟨(.type "tuple"), none, (.seq #[] 0), #[]⟩) ::
  (nat_lit 96, ⟨.none, none, (.fields #[]), #[]⟩) ::
  (nat_lit 97, ⟨(.type "tuple"), none, (.seq #[(.str (.ofString "self") 315), (.str (.ofString "clauses") 316), (.str (.ofString "number") 317), (.str (.ofString "picture") 318)] 0), #[]⟩) ::
  (nat_lit 98, ⟨(.type "tuple"), none, (.seq #[] 0), #[]⟩) ::
  (nat_lit 99, ⟨.none, none, (.func (fd (sm 8 1) (.ofString "Shape.told") 0 [] .none .none .none .none none .none .none 0)), #[]⟩) ::
  (nat_lit 100, ⟨(.type "code"), none, (.fields #[(.str (.ofString "told") 312), (.str (.ofString "Shape.told") 313), (.str (.ofString "/claim/cut.py") 314), (.int 39 0), (.int 1 0), (.int 0 0), (.int 0 0), (.int 3 0), (.ref 95), (.bool true), (.int 181 0), (.ref 96), .none, (.ref 97), (.ref 98), (.ref 99), (.int 319 0), (.int 39 0), (.str (.ofString "/claim/cut.py") 320)]), #[]⟩) ::
  (nat_lit 101, ⟨(.type "function"), none, (.func (fd (sm 8 1) (.ofString "Shape.told") 3 [] .none .none .none (.str (.ofString "ledgerspeak.shapes") 277) none (.ref 100) .none 0)), #[]⟩) ::
  (nat_lit 102, ⟨(.type "tuple"), none, (.seq #[] 0), #[]⟩) ::
  (nat_lit 103, ⟨.none, none, (.fields #[]), #[]⟩) ::
  (nat_lit 104, ⟨(.type "tuple"), none, (.seq #[(.str (.ofString "self") 325)] 0), #[]⟩) ::
  (nat_lit 105, ⟨(.type "tuple"), none, (.seq #[] 0), #[]⟩) ::
  (nat_lit 106, ⟨.none, none, (.func (fd (sm 8 2) (.ofString "Shape.sign_place") 0 [] .none .none .none .none none .none .none 0)), #[]⟩) ::
  (nat_lit 107, ⟨(.type "code"), none, (.fields #[(.str (.ofString "sign_place") 322), (.str (.ofString "Shape.sign_place") 323), (.str (.ofString "/claim/cut.py") 324), (.int 45 0), (.int 1 0), (.int 0 0), (.int 0 0), (.int 3 0), (.ref 102), (.bool true), (.int 181 0), (.ref 103), .none, (.ref 104), (.ref 105), (.ref 106), (.int 326 0), (.int 45 0), (.str (.ofString "/claim/cut.py") 327)]), #[]⟩) ::
  (nat_lit 108, ⟨(.type "function"), none, (.func (fd (sm 8 2) (.ofString "Shape.sign_place") 3 [] .none .none .none (.str (.ofString "ledgerspeak.shapes") 277) none (.ref 107) .none 0)), #[]⟩) ::
  (nat_lit 109, ⟨(.type "tuple"), none, (.seq #[(.str (.ofString "category") 329), (.str (.ofString "digits") 330), (.str (.ofString "is_blank_zero") 331), (.str (.ofString "is_justified") 332), (.str (.ofString "is_separate") 333), (.str (.ofString "is_signed") 334), (.str (.ofString "picture") 335), (.str (.ofString "scale") 336), (.str (.ofString "sign") 337), (.str (.ofString "size") 338), (.str (.ofString "usage") 339)] 0), #[]⟩) ::
  (nat_lit 110, ⟨(.type "dict"), none, (.dict #[de P "__module__" 290 (.str (.ofString "ledgerspeak.shapes") 277), de P "__firstlineno__" 294 (.int 20 293), de P "__init__" 311 (.ref 94), de P "told" 321 (.ref 101), de P "sign_place" 328 (.ref 108), de P "__static_attributes__" 340 (.ref 109), de P "__dict__" 342 (.ref 112), de P "__weakref__" 344 (.ref 113), de P "__doc__" 345 .none] 4), #[]⟩) ::
  (nat_lit 111, ⟨(.type "type"), none, (.cls ⟨(.ofString "Shape"), [(.type "object")], [(.ref 111), (.type "object")], 110, (.ofString "Shape"), true, [], [], false, none, false⟩), #[none, none, (some (.str (.ofString "Shape") 283)), (some (.str (.ofString "Shape") 291)), (some (.builtin "object.__new__")), (some (.bool true))]⟩) ::
  (nat_lit 112, ⟨(.type "getset_descriptor"), none, (.fields #[(.str (.ofString "__dict__") 341), (.ref 111), (.builtin "function.__dict__"), (.builtin "function.__dict__#set")]), #[]⟩) ::
  (nat_lit 113, ⟨(.type "getset_descriptor"), none, (.fields #[(.str (.ofString "__weakref__") 343), (.ref 111), (.builtin "ExceptionGroup.__weakref__"), .none]), #[]⟩) ::
  (nat_lit 116, ⟨(.type "tuple"), none, (.seq #[] 0), #[]⟩) ::
  (nat_lit 117, ⟨.none, none, (.fields #[]), #[]⟩) ::
  (nat_lit 118, ⟨(.type "tuple"), none, (.seq #[(.str (.ofString "shape") 351)] 0), #[]⟩) ::
  (nat_lit 119, ⟨(.type "tuple"), none, (.seq #[] 0), #[]⟩) ::
  (nat_lit 120, ⟨.none, none, (.func (fd (st 9) (.ofString "has_units") 0 [] .none .none .none .none none .none .none 0)), #[]⟩) ::
  (nat_lit 121, ⟨(.type "code"), none, (.fields #[(.str (.ofString "has_units") 348), (.str (.ofString "has_units") 349), (.str (.ofString "/claim/cut.py") 350), (.int 49 0), (.int 1 0), (.int 0 0), (.int 0 0), (.int 3 0), (.ref 116), (.bool true), (.int 181 0), (.ref 117), .none, (.ref 118), (.ref 119), (.ref 120), (.int 352 0), (.int 49 0), (.str (.ofString "/claim/cut.py") 353)]), #[]⟩) ::
  (nat_lit 122, ⟨(.type "function"), none, (.func (fd (st 9) (.ofString "has_units") 3 [] .none .none .none (.str (.ofString "ledgerspeak.shapes") 277) none (.ref 121) .none 0)), #[]⟩) ::
  (nat_lit 123, ⟨(.type "tuple"), none, (.seq #[] 0), #[]⟩) ::
  (nat_lit 124, ⟨.none, none, (.fields #[]), #[]⟩) ::
  (nat_lit 125, ⟨(.type "tuple"), none, (.seq #[(.str (.ofString "shape") 358)] 0), #[]⟩) ::
  (nat_lit 126, ⟨(.type "tuple"), none, (.seq #[] 0), #[]⟩) ::
  (nat_lit 127, ⟨.none, none, (.func (fd (st 10) (.ofString "unit_bound") 0 [] .none .none .none .none none .none .none 0)), #[]⟩) ::
  (nat_lit 128, ⟨(.type "code"), none, (.fields #[(.str (.ofString "unit_bound") 355), (.str (.ofString "unit_bound") 356), (.str (.ofString "/claim/cut.py") 357), (.int 51 0), (.int 1 0), (.int 0 0), (.int 0 0), (.int 3 0), (.ref 123), (.bool true), (.int 181 0), (.ref 124), .none, (.ref 125), (.ref 126), (.ref 127), (.int 359 0), (.int 51 0), (.str (.ofString "/claim/cut.py") 360)]), #[]⟩) ::
  (nat_lit 129, ⟨(.type "function"), none, (.func (fd (st 10) (.ofString "unit_bound") 3 [] .none .none .none (.str (.ofString "ledgerspeak.shapes") 277) none (.ref 128) .none 0)), #[]⟩) ::
  (nat_lit 130, ⟨(.type "tuple"), none, (.seq #[] 0), #[]⟩) ::
  (nat_lit 131, ⟨.none, none, (.fields #[]), #[]⟩) ::
  (nat_lit 132, ⟨(.type "tuple"), none, (.seq #[(.str (.ofString "digits") 365)] 0), #[]⟩) ::
  (nat_lit 133, ⟨(.type "tuple"), none, (.seq #[] 0), #[]⟩) ::
  (nat_lit 134, ⟨.none, none, (.func (fd (st 11) (.ofString "binary_width") 0 [] .none .none .none .none none .none .none 0)), #[]⟩) ::
  (nat_lit 135, ⟨(.type "code"), none, (.fields #[(.str (.ofString "binary_width") 362), (.str (.ofString "binary_width") 363), (.str (.ofString "/claim/cut.py") 364), (.int 53 0), (.int 1 0), (.int 0 0), (.int 0 0), (.int 3 0), (.ref 130), (.bool true), (.int 181 0), (.ref 131), .none, (.ref 132), (.ref 133), (.ref 134), (.int 366 0), (.int 53 0), (.str (.ofString "/claim/cut.py") 367)]), #[]⟩) ::
  (nat_lit 136, ⟨(.type "function"), none, (.func (fd (st 11) (.ofString "binary_width") 3 [] .none .none .none (.str (.ofString "ledgerspeak.shapes") 277) none (.ref 135) .none 0)), #[]⟩) ::
  (nat_lit 137, ⟨(.type "tuple"), none, (.seq #[] 0), #[]⟩) ::
  (nat_lit 138, ⟨.none, none, (.fields #[]), #[]⟩) ::
  (nat_lit 139, ⟨(.type "tuple"), none, (.seq #[(.str (.ofString "digits") 372)] 0), #[]⟩) ::
  (nat_lit 140, ⟨(.type "tuple"), none, (.seq #[] 0), #[]⟩) ::
  (nat_lit 141, ⟨.none, none, (.func (fd (st 12) (.ofString "packed_width") 0 [] .none .none .none .none none .none .none 0)), #[]⟩) ::
  (nat_lit 142, ⟨(.type "code"), none, (.fields #[(.str (.ofString "packed_width") 369), (.str (.ofString "packed_width") 370), (.str (.ofString "/claim/cut.py") 371), (.int 59 0), (.int 1 0), (.int 0 0), (.int 0 0), (.int 3 0), (.ref 137), (.bool true), (.int 181 0), (.ref 138), .none, (.ref 139), (.ref 140), (.ref 141), (.int 373 0), (.int 59 0), (.str (.ofString "/claim/cut.py") 374)]), #[]⟩) ::
  (nat_lit 143, ⟨(.type "function"), none, (.func (fd (st 12) (.ofString "packed_width") 3 [] .none .none .none (.str (.ofString "ledgerspeak.shapes") 277) none (.ref 142) .none 0)), #[]⟩) ::
  (nat_lit 144, ⟨(.type "tuple"), none, (.seq #[] 0), #[]⟩) ::
  (nat_lit 145, ⟨.none, none, (.fields #[]), #[]⟩) ::
  (nat_lit 146, ⟨(.type "tuple"), none, (.seq #[(.str (.ofString "picture") 379), (.str (.ofString "usage") 380), (.str (.ofString "is_separate") 381)] 0), #[]⟩) ::
  (nat_lit 147, ⟨(.type "tuple"), none, (.seq #[] 0), #[]⟩) ::
  (nat_lit 148, ⟨.none, none, (.func (fd (st 13) (.ofString "size_for") 0 [] .none .none .none .none none .none .none 0)), #[]⟩) ::
  (nat_lit 149, ⟨(.type "code"), none, (.fields #[(.str (.ofString "size_for") 376), (.str (.ofString "size_for") 377), (.str (.ofString "/claim/cut.py") 378), (.int 63 0), (.int 3 0), (.int 0 0), (.int 0 0), (.int 3 0), (.ref 144), (.bool true), (.int 181 0), (.ref 145), .none, (.ref 146), (.ref 147), (.ref 148), (.int 382 0), (.int 63 0), (.str (.ofString "/claim/cut.py") 383)]), #[]⟩) ::
  (nat_lit 150, ⟨(.type "function"), none, (.func (fd (st 13) (.ofString "size_for") 3 [] .none .none .none (.str (.ofString "ledgerspeak.shapes") 277) none (.ref 149) .none 0)), #[]⟩) ::
  (nat_lit 151, ⟨(.type "tuple"), none, (.seq #[] 0), #[]⟩) ::
  (nat_lit 152, ⟨.none, none, (.fields #[]), #[]⟩) ::
  (nat_lit 153, ⟨(.type "tuple"), none, (.seq #[(.str (.ofString "picture") 388), (.str (.ofString "usage") 389)] 0), #[]⟩) ::
  (nat_lit 154, ⟨(.type "tuple"), none, (.seq #[] 0), #[]⟩) ::
  (nat_lit 155, ⟨.none, none, (.func (fd (st 14) (.ofString "check_usage") 0 [] .none .none .none .none none .none .none 0)), #[]⟩) ::
  (nat_lit 156, ⟨(.type "code"), none, (.fields #[(.str (.ofString "check_usage") 385), (.str (.ofString "check_usage") 386), (.str (.ofString "/claim/cut.py") 387), (.int 69 0), (.int 2 0), (.int 0 0), (.int 0 0), (.int 3 0), (.ref 151), (.bool true), (.int 181 0), (.ref 152), .none, (.ref 153), (.ref 154), (.ref 155), (.int 390 0), (.int 69 0), (.str (.ofString "/claim/cut.py") 391)]), #[]⟩) ::
  (nat_lit 157, ⟨(.type "function"), none, (.func (fd (st 14) (.ofString "check_usage") 3 [] .none .none .none (.str (.ofString "ledgerspeak.shapes") 277) none (.ref 156) .none 0)), #[]⟩) ::
  (nat_lit 158, ⟨(.type "tuple"), none, (.seq #[] 0), #[]⟩) ::
  (nat_lit 159, ⟨.none, none, (.fields #[]), #[]⟩) ::
  (nat_lit 160, ⟨(.type "tuple"), none, (.seq #[(.str (.ofString "picture") 396), (.str (.ofString "usage") 397), (.str (.ofString "sign") 398), (.str (.ofString "is_separate") 399)] 0), #[]⟩) ::
  (nat_lit 161, ⟨(.type "tuple"), none, (.seq #[] 0), #[]⟩) ::
  (nat_lit 162, ⟨.none, none, (.func (fd (st 15) (.ofString "check_sign") 0 [] .none .none .none .none none .none .none 0)), #[]⟩) ::
  (nat_lit 163, ⟨(.type "code"), none, (.fields #[(.str (.ofString "check_sign") 393), (.str (.ofString "check_sign") 394), (.str (.ofString "/claim/cut.py") 395), (.int 76 0), (.int 4 0), (.int 0 0), (.int 0 0), (.int 3 0), (.ref 158), (.bool true), (.int 181 0), (.ref 159), .none, (.ref 160), (.ref 161), (.ref 162), (.int 400 0), (.int 76 0), (.str (.ofString "/claim/cut.py") 401)]), #[]⟩) ::
  (nat_lit 164, ⟨(.type "function"), none, (.func (fd (st 15) (.ofString "check_sign") 3 [] .none .none .none (.str (.ofString "ledgerspeak.shapes") 277) none (.ref 163) .none 0)), #[]⟩) ::
  (nat_lit 165, ⟨(.type "tuple"), none, (.seq #[] 0), #[]⟩) ::
  (nat_lit 166, ⟨.none, none, (.fields #[]), #[]⟩) ::
  (nat_lit 167, ⟨.none, none, (.func (fd (st 16) (.ofString "check_clauses") 0 [] .none .none .none .none none .none .none 0)), #[]⟩) ::
  (nat_lit 168, ⟨(.type "code"), none, (.fields #[(.str (.ofString "check_clauses") 403), (.str (.ofString "check_clauses") 404), (.str (.ofString "/claim/cut.py") 405), (.int 83 0), (.int 3 0), (.int 0 0), (.int 0 0), (.int 3 0), (.ref 165), (.bool true), (.int 181 0), (.ref 166), .none, .none, .none, (.ref 167), (.int 406 0), (.int 83 0), (.str (.ofString "/claim/cut.py") 407)]), #[]⟩) ::
  (nat_lit 169, ⟨(.type "function"), none, (.func (fd (st 16) (.ofString "check_clauses") 3 [] .none .none .none (.str (.ofString "ledgerspeak.shapes") 277) none (.ref 168) .none 0)), #[]⟩) ::
  (nat_lit 170, ⟨(.type "tuple"), none, (.seq #[(.str (.ofString "display") 409), (.str (.ofString "trailing") 410), (.bool false), (.bool false), (.bool false)] 0), #[]⟩) ::
  (nat_lit 171, ⟨(.type "tuple"), none, (.seq #[] 0), #[]⟩) ::
  (nat_lit 172, ⟨.none, none, (.fields #[]), #[]⟩) ::
  (nat_lit 173, ⟨(.type "tuple"), none, (.seq #[(.str (.ofString "picture") 414), (.str (.ofString "usage") 415), (.str (.ofString "sign") 416), (.str (.ofString "is_separate") 417), (.str (.ofString "is_justified") 418), (.str (.ofString "is_blank_zero") 419), (.str (.ofString "size") 420)] 0), #[]⟩) ::
  (nat_lit 174, ⟨(.type "tuple"), none, (.seq #[] 0), #[]⟩) ::
  (nat_lit 175, ⟨.none, none, (.func (fd (st 17) (.ofString "shape_of") 0 [] .none .none .none .none none .none .none 0)), #[]⟩) ::
  (nat_lit 176, ⟨(.type "code"), none, (.fields #[(.str (.ofString "shape_of") 411), (.str (.ofString "shape_of") 412), (.str (.ofString "/claim/cut.py") 413), (.int 90 0), (.int 6 0), (.int 0 0), (.int 0 0), (.int 3 0), (.ref 171), (.bool true), (.int 181 0), (.ref 172), .none, (.ref 173), (.ref 174), (.ref 175), (.int 421 0), (.int 90 0), (.str (.ofString "/claim/cut.py") 422)]), #[]⟩) ::
  (nat_lit 177, ⟨(.type "function"), none, (.func (fd (st 17) (.ofString "shape_of") 3 [] (.ref 170) .none .none (.str (.ofString "ledgerspeak.shapes") 277) none (.ref 176) .none 0)), #[]⟩) ::
  (nat_lit 178, ⟨(.type "tuple"), none, (.seq #[] 0), #[]⟩) ::
  (nat_lit 179, ⟨.none, none, (.fields #[]), #[]⟩) ::
  (nat_lit 180, ⟨(.type "tuple"), none, (.seq #[(.str (.ofString "shape") 445), (.str (.ofString "units") 446), (.str (.ofString "left") 447)] 0), #[]⟩) ::
  (nat_lit 181, ⟨(.type "tuple"), none, (.seq #[] 0), #[]⟩) ::
  (nat_lit 182, ⟨.none, none, (.func (fd (st 27) (.ofString "kept_units") 0 [] .none .none .none .none none .none .none 0)), #[]⟩) ::
  (nat_lit 183, ⟨(.type "code"), none, (.fields #[(.str (.ofString "kept_units") 442), (.str (.ofString "kept_units") 443), (.str (.ofString "/claim/cut.py") 444), (.int 105 0), (.int 2 0), (.int 0 0), (.int 0 0), (.int 3 0), (.ref 178), (.bool true), (.int 181 0), (.ref 179), .none, (.ref 180), (.ref 181), (.ref 182), (.int 448 0), (.int 105 0), (.str (.ofString "/claim/cut.py") 449)]), #[]⟩) ::
  (nat_lit 184, ⟨(.type "function"), none, (.func (fd (st 27) (.ofString "kept_units") 3 [] .none .none .none (.str (.ofString "ledgerspeak.usages") 424) none (.ref 183) .none 0)), #[]⟩) ::
  (nat_lit 185, ⟨(.type "tuple"), none, (.seq #[] 0), #[]⟩) ::
  (nat_lit 186, ⟨.none, none, (.fields #[]), #[]⟩) ::
  (nat_lit 187, ⟨(.type "tuple"), none, (.seq #[(.str (.ofString "number") 454), (.str (.ofString "count") 455), (.str (.ofString "found") 456), (.str (.ofString "rest") 457), (.str (.ofString "turn") 458)] 0), #[]⟩) ::
  (nat_lit 188, ⟨(.type "tuple"), none, (.seq #[] 0), #[]⟩) ::
  (nat_lit 189, ⟨.none, none, (.func (fd (st 28) (.ofString "figures_for") 0 [] .none .none .none .none none .none .none 0)), #[]⟩) ::
  (nat_lit 190, ⟨(.type "code"), none, (.fields #[(.str (.ofString "figures_for") 451), (.str (.ofString "figures_for") 452), (.str (.ofString "/claim/cut.py") 453), (.int 108 0), (.int 2 0), (.int 0 0), (.int 0 0), (.int 3 0), (.ref 185), (.bool true), (.int 181 0), (.ref 186), .none, (.ref 187), (.ref 188), (.ref 189), (.int 459 0), (.int 108 0), (.str (.ofString "/claim/cut.py") 460)]), #[]⟩) ::
  (nat_lit 191, ⟨(.type "function"), none, (.func (fd (st 28) (.ofString "figures_for") 3 [] .none .none .none (.str (.ofString "ledgerspeak.usages") 424) none (.ref 190) .none 0)), #[]⟩) ::
  (nat_lit 192, ⟨(.type "tuple"), none, (.seq #[] 0), #[]⟩) ::
  (nat_lit 193, ⟨.none, none, (.fields #[]), #[]⟩) ::
  (nat_lit 194, ⟨.none, none, (.func (fd (st 29) (.ofString "display_octets") 0 [] .none .none .none .none none .none .none 0)), #[]⟩) ::
  (nat_lit 195, ⟨(.type "code"), none, (.fields #[(.str (.ofString "display_octets") 462), (.str (.ofString "display_octets") 463), (.str (.ofString "/claim/cut.py") 464), (.int 114 0), (.int 2 0), (.int 0 0), (.int 0 0), (.int 3 0), (.ref 192), (.bool true), (.int 181 0), (.ref 193), .none, .none, .none, (.ref 194), (.int 465 0), (.int 114 0), (.str (.ofString "/claim/cut.py") 466)]), #[]⟩) ::
  (nat_lit 196, ⟨(.type "function"), none, (.func (fd (st 29) (.ofString "display_octets") 3 [] .none .none .none (.str (.ofString "ledgerspeak.usages") 424) none (.ref 195) .none 0)), #[]⟩) ::
  (nat_lit 197, ⟨(.type "tuple"), none, (.seq #[] 0), #[]⟩) ::
  (nat_lit 198, ⟨.none, none, (.fields #[]), #[]⟩) ::
  (nat_lit 199, ⟨.none, none, (.func (fd (st 30) (.ofString "packed_octets") 0 [] .none .none .none .none none .none .none 0)), #[]⟩) ::
  (nat_lit 200, ⟨(.type "code"), none, (.fields #[(.str (.ofString "packed_octets") 468), (.str (.ofString "packed_octets") 469), (.str (.ofString "/claim/cut.py") 470), (.int 125 0), (.int 2 0), (.int 0 0), (.int 0 0), (.int 3 0), (.ref 197), (.bool true), (.int 181 0), (.ref 198), .none, .none, .none, (.ref 199), (.int 471 0), (.int 125 0), (.str (.ofString "/claim/cut.py") 472)]), #[]⟩) ::
  (nat_lit 201, ⟨(.type "function"), none, (.func (fd (st 30) (.ofString "packed_octets") 3 [] .none .none .none (.str (.ofString "ledgerspeak.usages") 424) none (.ref 200) .none 0)), #[]⟩) ::
  (nat_lit 202, ⟨(.type "tuple"), none, (.seq #[] 0), #[]⟩) ::
  (nat_lit 203, ⟨.none, none, (.fields #[]), #[]⟩) ::
  (nat_lit 204, ⟨(.type "tuple"), none, (.seq #[(.str (.ofString "shape") 477), (.str (.ofString "units") 478), (.str (.ofString "rest") 479), (.str (.ofString "found") 480), (.str (.ofString "turn") 481)] 0), #[]⟩) ::
  (nat_lit 205, ⟨(.type "tuple"), none, (.seq #[] 0), #[]⟩) ::
  (nat_lit 206, ⟨.none, none, (.func (fd (st 31) (.ofString "binary_octets") 0 [] .none .none .none .none none .none .none 0)), #[]⟩) ::
  (nat_lit 207, ⟨(.type "code"), none, (.fields #[(.str (.ofString "binary_octets") 474), (.str (.ofString "binary_octets") 475), (.str (.ofString "/claim/cut.py") 476), (.int 131 0), (.int 2 0), (.int 0 0), (.int 0 0), (.int 3 0), (.ref 202), (.bool true), (.int 181 0), (.ref 203), .none, (.ref 204), (.ref 205), (.ref 206), (.int 482 0), (.int 131 0), (.str (.ofString "/claim/cut.py") 483)]), #[]⟩) ::
  (nat_lit 208, ⟨(.type "function"), none, (.func (fd (st 31) (.ofString "binary_octets") 3 [] .none .none .none (.str (.ofString "ledgerspeak.usages") 424) none (.ref 207) .none 0)), #[]⟩) ::
  (nat_lit 209, ⟨(.type "tuple"), none, (.seq #[] 0), #[]⟩) ::
  (nat_lit 210, ⟨.none, none, (.fields #[]), #[]⟩) ::
  (nat_lit 211, ⟨(.type "tuple"), none, (.seq #[(.str (.ofString "shape") 488), (.str (.ofString "units") 489), (.str (.ofString "left") 490)] 0), #[]⟩) ::
  (nat_lit 212, ⟨(.type "tuple"), none, (.seq #[] 0), #[]⟩) ::
  (nat_lit 213, ⟨.none, none, (.func (fd (st 32) (.ofString "octets_for") 0 [] .none .none .none .none none .none .none 0)), #[]⟩) ::
  (nat_lit 214, ⟨(.type "code"), none, (.fields #[(.str (.ofString "octets_for") 485), (.str (.ofString "octets_for") 486), (.str (.ofString "/claim/cut.py") 487), (.int 137 0), (.int 2 0), (.int 0 0), (.int 0 0), (.int 3 0), (.ref 209), (.bool true), (.int 181 0), (.ref 210), .none, (.ref 211), (.ref 212), (.ref 213), (.int 491 0), (.int 137 0), (.str (.ofString "/claim/cut.py") 492)]), #[]⟩) ::
  (nat_lit 215, ⟨(.type "function"), none, (.func (fd (st 32) (.ofString "octets_for") 3 [] .none .none .none (.str (.ofString "ledgerspeak.usages") 424) none (.ref 214) .none 0)), #[]⟩) ::
  (nat_lit 216, ⟨(.type "tuple"), none, (.seq #[] 0), #[]⟩) ::
  (nat_lit 217, ⟨.none, none, (.fields #[]), #[]⟩) ::
  (nat_lit 218, ⟨(.type "tuple"), none, (.seq #[(.str (.ofString "figures") 497), (.str (.ofString "found") 498), (.str (.ofString "at") 499), (.str (.ofString "figure") 500)] 0), #[]⟩) ::
  (nat_lit 219, ⟨(.type "tuple"), none, (.seq #[] 0), #[]⟩) ::
  (nat_lit 220, ⟨.none, none, (.func (fd (st 33) (.ofString "joined_figures") 0 [] .none .none .none .none none .none .none 0)), #[]⟩) ::
  (nat_lit 221, ⟨(.type "code"), none, (.fields #[(.str (.ofString "joined_figures") 494), (.str (.ofString "joined_figures") 495), (.str (.ofString "/claim/cut.py") 496), (.int 142 0), (.int 1 0), (.int 0 0), (.int 0 0), (.int 3 0), (.ref 216), (.bool true), (.int 181 0), (.ref 217), .none, (.ref 218), (.ref 219), (.ref 220), (.int 501 0), (.int 142 0), (.str (.ofString "/claim/cut.py") 502)]), #[]⟩) ::
  (nat_lit 222, ⟨(.type "function"), none, (.func (fd (st 33) (.ofString "joined_figures") 3 [] .none .none .none (.str (.ofString "ledgerspeak.usages") 424) none (.ref 221) .none 0)), #[]⟩) ::
  (nat_lit 223, ⟨(.type "tuple"), none, (.seq #[] 0), #[]⟩) ::
  (nat_lit 224, ⟨.none, none, (.fields #[]), #[]⟩) ::
  (nat_lit 225, ⟨(.type "tuple"), none, (.seq #[(.str (.ofString "code") 507)] 0), #[]⟩) ::
  (nat_lit 226, ⟨(.type "tuple"), none, (.seq #[] 0), #[]⟩) ::
  (nat_lit 227, ⟨.none, none, (.func (fd (st 34) (.ofString "signed_figure") 0 [] .none .none .none .none none .none .none 0)), #[]⟩) ::
  (nat_lit 228, ⟨(.type "code"), none, (.fields #[(.str (.ofString "signed_figure") 504), (.str (.ofString "signed_figure") 505), (.str (.ofString "/claim/cut.py") 506), (.int 149 0), (.int 1 0), (.int 0 0), (.int 0 0), (.int 3 0), (.ref 223), (.bool true), (.int 181 0), (.ref 224), .none, (.ref 225), (.ref 226), (.ref 227), (.int 508 0), (.int 149 0), (.str (.ofString "/claim/cut.py") 509)]), #[]⟩) ::
  (nat_lit 229, ⟨(.type "function"), none, (.func (fd (st 34) (.ofString "signed_figure") 3 [] .none .none .none (.str (.ofString "ledgerspeak.usages") 424) none (.ref 228) .none 0)), #[]⟩) ::
  (nat_lit 230, ⟨(.type "tuple"), none, (.seq #[] 0), #[]⟩) ::
  (nat_lit 231, ⟨.none, none, (.fields #[]), #[]⟩) ::
  (nat_lit 232, ⟨.none, none, (.func (fd (st 35) (.ofString "display_units") 0 [] .none .none .none .none none .none .none 0)), #[]⟩) ::
  (nat_lit 233, ⟨(.type "code"), none, (.fields #[(.str (.ofString "display_units") 511), (.str (.ofString "display_units") 512), (.str (.ofString "/claim/cut.py") 513), (.int 155 0), (.int 2 0), (.int 0 0), (.int 0 0), (.int 3 0), (.ref 230), (.bool true), (.int 181 0), (.ref 231), .none, .none, .none, (.ref 232), (.int 514 0), (.int 155 0), (.str (.ofString "/claim/cut.py") 515)]), #[]⟩) ::
  (nat_lit 234, ⟨(.type "function"), none, (.func (fd (st 35) (.ofString "display_units") 3 [] .none .none .none (.str (.ofString "ledgerspeak.usages") 424) none (.ref 233) .none 0)), #[]⟩) ::
  (nat_lit 235, ⟨(.type "tuple"), none, (.seq #[] 0), #[]⟩) ::
  (nat_lit 236, ⟨.none, none, (.fields #[]), #[]⟩) ::
  (nat_lit 237, ⟨(.type "tuple"), none, (.seq #[(.str (.ofString "shape") 520), (.str (.ofString "octets") 521), (.str (.ofString "halves") 522), (.str (.ofString "code") 523), (.str (.ofString "mark") 524), (.str (.ofString "found") 525)] 0), #[]⟩) ::
  (nat_lit 238, ⟨(.type "tuple"), none, (.seq #[] 0), #[]⟩) ::
  (nat_lit 239, ⟨.none, none, (.func (fd (st 36) (.ofString "packed_units") 0 [] .none .none .none .none none .none .none 0)), #[]⟩) ::
  (nat_lit 240, ⟨(.type "code"), none, (.fields #[(.str (.ofString "packed_units") 517), (.str (.ofString "packed_units") 518), (.str (.ofString "/claim/cut.py") 519), (.int 167 0), (.int 2 0), (.int 0 0), (.int 0 0), (.int 3 0), (.ref 235), (.bool true), (.int 181 0), (.ref 236), .none, (.ref 237), (.ref 238), (.ref 239), (.int 526 0), (.int 167 0), (.str (.ofString "/claim/cut.py") 527)]), #[]⟩) ::
  (nat_lit 241, ⟨(.type "function"), none, (.func (fd (st 36) (.ofString "packed_units") 3 [] .none .none .none (.str (.ofString "ledgerspeak.usages") 424) none (.ref 240) .none 0)), #[]⟩) ::
  (nat_lit 242, ⟨(.type "tuple"), none, (.seq #[] 0), #[]⟩) ::
  (nat_lit 243, ⟨.none, none, (.fields #[]), #[]⟩) ::
  (nat_lit 244, ⟨(.type "tuple"), none, (.seq #[(.str (.ofString "shape") 532), (.str (.ofString "octets") 533), (.str (.ofString "found") 534), (.str (.ofString "code") 535)] 0), #[]⟩) ::
  (nat_lit 245, ⟨(.type "tuple"), none, (.seq #[] 0), #[]⟩) ::
  (nat_lit 246, ⟨.none, none, (.func (fd (st 37) (.ofString "binary_units") 0 [] .none .none .none .none none .none .none 0)), #[]⟩) ::
  (nat_lit 247, ⟨(.type "code"), none, (.fields #[(.str (.ofString "binary_units") 529), (.str (.ofString "binary_units") 530), (.str (.ofString "/claim/cut.py") 531), (.int 176 0), (.int 2 0), (.int 0 0), (.int 0 0), (.int 3 0), (.ref 242), (.bool true), (.int 181 0), (.ref 243), .none, (.ref 244), (.ref 245), (.ref 246), (.int 536 0), (.int 176 0), (.str (.ofString "/claim/cut.py") 537)]), #[]⟩) ::
  (nat_lit 248, ⟨(.type "function"), none, (.func (fd (st 37) (.ofString "binary_units") 3 [] .none .none .none (.str (.ofString "ledgerspeak.usages") 424) none (.ref 247) .none 0)), #[]⟩) ::
  (nat_lit 249, ⟨(.type "tuple"), none, (.seq #[] 0), #[]⟩) ::
  (nat_lit 250, ⟨.none, none, (.fields #[]), #[]⟩) ::
  (nat_lit 251, ⟨(.type "tuple"), none, (.seq #[(.str (.ofString "shape") 542), (.str (.ofString "octets") 543), (.str (.ofString "found") 544)] 0), #[]⟩) ::
  (nat_lit 252, ⟨(.type "tuple"), none, (.seq #[] 0), #[]⟩) ::
  (nat_lit 253, ⟨.none, none, (.func (fd (st 38) (.ofString "units_in") 0 [] .none .none .none .none none .none .none 0)), #[]⟩) ::
  (nat_lit 254, ⟨(.type "code"), none, (.fields #[(.str (.ofString "units_in") 539), (.str (.ofString "units_in") 540), (.str (.ofString "/claim/cut.py") 541), (.int 183 0), (.int 2 0), (.int 0 0), (.int 0 0), (.int 3 0), (.ref 249), (.bool true), (.int 181 0), (.ref 250), .none, (.ref 251), (.ref 252), (.ref 253), (.int 545 0), (.int 183 0), (.str (.ofString "/claim/cut.py") 546)]), #[]⟩) ::
  (nat_lit 255, ⟨(.type "function"), none, (.func (fd (st 38) (.ofString "units_in") 3 [] .none .none .none (.str (.ofString "ledgerspeak.usages") 424) none (.ref 254) .none 0)), #[]⟩) ::
  (nat_lit 256, ⟨(.type "tuple"), none, (.seq #[] 0), #[]⟩) ::
  (nat_lit 257, ⟨.none, none, (.fields #[]), #[]⟩) ::
  (nat_lit 258, ⟨(.type "tuple"), none, (.seq #[(.str (.ofString "row") 553), (.str (.ofString "key") 554), (.str (.ofString "offset") 555), (.str (.ofString "shape") 556), (.str (.ofString "part") 557)] 0), #[]⟩) ::
  (nat_lit 259, ⟨(.type "tuple"), none, (.seq #[] 0), #[]⟩) ::
  (nat_lit 260, ⟨.none, none, (.func (fd (st 40) (.ofString "key_worth") 0 [] .none .none .none .none none .none .none 0)), #[]⟩) ::
  (nat_lit 261, ⟨(.type "code"), none, (.fields #[(.str (.ofString "key_worth") 550), (.str (.ofString "key_worth") 551), (.str (.ofString "/claim/cut.py") 552), (.int 193 0), (.int 2 0), (.int 0 0), (.int 0 0), (.int 3 0), (.ref 256), (.bool true), (.int 181 0), (.ref 257), .none, (.ref 258), (.ref 259), (.ref 260), (.int 558 0), (.int 193 0), (.str (.ofString "/claim/cut.py") 559)]), #[]⟩) ::
  (nat_lit 262, ⟨(.type "function"), none, (.func (fd (st 40) (.ofString "key_worth") 3 [] .none .none .none (.str (.ofString "ledgerspeak.sorting") 548) none (.ref 261) .none 0)), #[]⟩) ::
  (nat_lit 263, ⟨(.type "tuple"), none, (.seq #[] 0), #[]⟩) ::
  (nat_lit 264, ⟨.none, none, (.fields #[]), #[]⟩) ::
  (nat_lit 265, ⟨(.type "tuple"), none, (.seq #[(.str (.ofString "one") 564), (.str (.ofString "other") 565), (.str (.ofString "keys") 566), (.str (.ofString "key") 567), (.str (.ofString "first") 568), (.str (.ofString "second") 569)] 0), #[]⟩) ::
  (nat_lit 266, ⟨(.type "tuple"), none, (.seq #[] 0), #[]⟩) ::
  (nat_lit 267, ⟨.none, none, (.func (fd (st 41) (.ofString "goes_ahead") 0 [] .none .none .none .none none .none .none 0)), #[]⟩) ::
  (nat_lit 268, ⟨(.type "code"), none, (.fields #[(.str (.ofString "goes_ahead") 561), (.str (.ofString "goes_ahead") 562), (.str (.ofString "/claim/cut.py") 563), (.int 197 0), (.int 3 0), (.int 0 0), (.int 0 0), (.int 3 0), (.ref 263), (.bool true), (.int 181 0), (.ref 264), .none, (.ref 265), (.ref 266), (.ref 267), (.int 570 0), (.int 197 0), (.str (.ofString "/claim/cut.py") 571)]), #[]⟩) ::
  (nat_lit 269, ⟨(.type "function"), none, (.func (fd (st 41) (.ofString "goes_ahead") 3 [] .none .none .none (.str (.ofString "ledgerspeak.sorting") 548) none (.ref 268) .none 0)), #[]⟩) ::
  (nat_lit 270, ⟨(.type "tuple"), none, (.seq #[] 0), #[]⟩) ::
  (nat_lit 271, ⟨.none, none, (.fields #[]), #[]⟩) ::
  (nat_lit 272, ⟨(.type "tuple"), none, (.seq #[(.str (.ofString "one") 576), (.str (.ofString "other") 577), (.str (.ofString "keys") 578), (.str (.ofString "found") 579), (.str (.ofString "at") 580), (.str (.ofString "spot") 581)] 0), #[]⟩) ::
  (nat_lit 273, ⟨(.type "tuple"), none, (.seq #[] 0), #[]⟩) ::
  (nat_lit 274, ⟨.none, none, (.func (fd (st 42) (.ofString "merged_pair") 0 [] .none .none .none .none none .none .none 0)), #[]⟩) ::
  (nat_lit 275, ⟨(.type "code"), none, (.fields #[(.str (.ofString "merged_pair") 573), (.str (.ofString "merged_pair") 574), (.str (.ofString "/claim/cut.py") 575), (.int 203 0), (.int 3 0), (.int 0 0), (.int 0 0), (.int 3 0), (.ref 270), (.bool true), (.int 181 0), (.ref 271), .none, (.ref 272), (.ref 273), (.ref 274), (.int 582 0), (.int 203 0), (.str (.ofString "/claim/cut.py") 583)]), #[]⟩) ::
  (nat_lit 276, ⟨(.type "function"), none, (.func (fd (st 42) (.ofString "merged_pair") 3 [] .none .none .none (.str (.ofString "ledgerspeak.sorting") 548) none (.ref 275) .none 0)), #[]⟩) ::
  (nat_lit 277, ⟨(.type "tuple"), none, (.seq #[] 0), #[]⟩) ::
  (nat_lit 278, ⟨.none, none, (.fields #[]), #[]⟩) ::
  (nat_lit 279, ⟨(.type "tuple"), none, (.seq #[(.str (.ofString "lists") 588), (.str (.ofString "keys") 589), (.str (.ofString "found") 590), (.str (.ofString "rows") 591)] 0), #[]⟩) ::
  (nat_lit 280, ⟨(.type "tuple"), none, (.seq #[] 0), #[]⟩) ::
  (nat_lit 281, ⟨.none, none, (.func (fd (st 43) (.ofString "merged_rows") 0 [] .none .none .none .none none .none .none 0)), #[]⟩) ::
  (nat_lit 282, ⟨(.type "code"), none, (.fields #[(.str (.ofString "merged_rows") 585), (.str (.ofString "merged_rows") 586), (.str (.ofString "/claim/cut.py") 587), (.int 213 0), (.int 2 0), (.int 0 0), (.int 0 0), (.int 3 0), (.ref 277), (.bool true), (.int 181 0), (.ref 278), .none, (.ref 279), (.ref 280), (.ref 281), (.int 592 0), (.int 213 0), (.str (.ofString "/claim/cut.py") 593)]), #[]⟩) ::
  (nat_lit 283, ⟨(.type "function"), none, (.func (fd (st 43) (.ofString "merged_rows") 3 [] .none .none .none (.str (.ofString "ledgerspeak.sorting") 548) none (.ref 282) .none 0)), #[]⟩) ::
  (nat_lit 284, ⟨(.type "tuple"), none, (.seq #[] 0), #[]⟩) ::
  (nat_lit 285, ⟨.none, none, (.fields #[]), #[]⟩) ::
  (nat_lit 286, ⟨(.type "tuple"), none, (.seq #[(.str (.ofString "rows") 598), (.str (.ofString "keys") 599), (.str (.ofString "at") 600)] 0), #[]⟩) ::
  (nat_lit 287, ⟨(.type "tuple"), none, (.seq #[] 0), #[]⟩) ::
  (nat_lit 288, ⟨.none, none, (.func (fd (st 44) (.ofString "is_in_order") 0 [] .none .none .none .none none .none .none 0)), #[]⟩) ::
  (nat_lit 289, ⟨(.type "code"), none, (.fields #[(.str (.ofString "is_in_order") 595), (.str (.ofString "is_in_order") 596), (.str (.ofString "/claim/cut.py") 597), (.int 218 0), (.int 2 0), (.int 0 0), (.int 0 0), (.int 3 0), (.ref 284), (.bool true), (.int 181 0), (.ref 285), .none, (.ref 286), (.ref 287), (.ref 288), (.int 601 0), (.int 218 0), (.str (.ofString "/claim/cut.py") 602)]), #[]⟩) ::
  (nat_lit 290, ⟨(.type "function"), none, (.func (fd (st 44) (.ofString "is_in_order") 3 [] .none .none .none (.str (.ofString "ledgerspeak.sorting") 548) none (.ref 289) .none 0)), #[]⟩) ::
  (nat_lit 291, ⟨(.type "tuple"), none, (.seq #[] 0), #[]⟩) ::
  (nat_lit 292, ⟨.none, none, (.fields #[]), #[]⟩) ::
  (nat_lit 293, ⟨(.type "tuple"), none, (.seq #[(.str (.ofString "octets") 607), (.str (.ofString "size") 608)] 0), #[]⟩) ::
  (nat_lit 294, ⟨(.type "tuple"), none, (.seq #[] 0), #[]⟩) ::
  (nat_lit 295, ⟨.none, none, (.func (fd (st 45) (.ofString "fitted") 0 [] .none .none .none .none none .none .none 0)), #[]⟩) ::
  (nat_lit 296, ⟨(.type "code"), none, (.fields #[(.str (.ofString "fitted") 604), (.str (.ofString "fitted") 605), (.str (.ofString "/claim/cut.py") 606), (.int 223 0), (.int 2 0), (.int 0 0), (.int 0 0), (.int 3 0), (.ref 291), (.bool true), (.int 181 0), (.ref 292), .none, (.ref 293), (.ref 294), (.ref 295), (.int 609 0), (.int 223 0), (.str (.ofString "/claim/cut.py") 610)]), #[]⟩) ::
  (nat_lit 297, ⟨(.type "function"), none, (.func (fd (st 45) (.ofString "fitted") 3 [] .none .none .none (.str (.ofString "ledgerspeak.sorting") 548) none (.ref 296) .none 0)), #[]⟩) ::
  (nat_lit 305, ⟨(.type "tuple"), none, (.seq #[] 0), #[]⟩) ::
  (nat_lit 306, ⟨.none, none, (.fields #[]), #[]⟩) ::
  (nat_lit 307, ⟨(.type "tuple"), none, (.seq #[(.str (.ofString "self") 647), (.str (.ofString "text") 648), (.str (.ofString "symbols") 649), (.str (.ofString "category") 650), (.str (.ofString "digits") 651), (.str (.ofString "scale") 652), (.str (.ofString "is_signed") 653), (.str (.ofString "size") 654)] 0), #[]⟩) ::
  (nat_lit 308, ⟨(.type "tuple"), none, (.seq #[] 0), #[]⟩) ::
  (nat_lit 309, ⟨.none, none, (.func (fd (sm 56 0) (.ofString "Picture.__init__") 0 [] .none .none .none .none none .none .none 0)), #[]⟩) ::
  (nat_lit 310, ⟨(.type "code"), none, (.fields #[(.str (.ofString "__init__") 644), (.str (.ofString "Picture.__init__") 645), (.str (.ofString "/claim/cut.py") 646), (.int 237 0), (.int 8 0), (.int 0 0), (.int 0 0), (.int 3 0), (.ref 305), (.bool true), (.int 181 0), (.ref 306), .none, (.ref 307), (.ref 308), (.ref 309), (.int 655 0), (.int 237 0), (.str (.ofString "/claim/cut.py") 656)]), #[]⟩) ::
  (nat_lit 311, ⟨(.type "function"), none, (.func (fd (sm 56 0) (.ofString "Picture.__init__") 3 [] .none .none .none (.str (.ofString "ledgerspeak.pictures") 612) none (.ref 310) .none 0)), #[]⟩) ::
  (nat_lit 312, ⟨(.type "tuple"), none, (.seq #[] 0), #[]⟩) ::
  (nat_lit 313, ⟨.none, none, (.fields #[]), #[]⟩) ::
  (nat_lit 314, ⟨(.type "tuple"), none, (.seq #[(.str (.ofString "self") 661)] 0), #[]⟩) ::
  (nat_lit 315, ⟨(.type "tuple"), none, (.seq #[] 0), #[]⟩) ::
  (nat_lit 316, ⟨.none, none, (.func (fd (sm 56 1) (.ofString "Picture.told") 0 [] .none .none .none .none none .none .none 0)), #[]⟩) ::
  (nat_lit 317, ⟨(.type "code"), none, (.fields #[(.str (.ofString "told") 658), (.str (.ofString "Picture.told") 659), (.str (.ofString "/claim/cut.py") 660), (.int 246 0), (.int 1 0), (.int 0 0), (.int 0 0), (.int 3 0), (.ref 312), (.bool true), (.int 181 0), (.ref 313), .none, (.ref 314), (.ref 315), (.ref 316), (.int 662 0), (.int 246 0), (.str (.ofString "/claim/cut.py") 663)]), #[]⟩) ::
  (nat_lit 318, ⟨(.type "function"), none, (.func (fd (sm 56 1) (.ofString "Picture.told") 3 [] .none .none .none (.str (.ofString "ledgerspeak.pictures") 612) none (.ref 317) .none 0)), #[]⟩) ::
  (nat_lit 319, ⟨(.type "tuple"), none, (.seq #[] 0), #[]⟩) ::
  (nat_lit 320, ⟨.none, none, (.fields #[]), #[]⟩) ::
  (nat_lit 321, ⟨.none, none, (.func (fd (sm 56 2) (.ofString "Picture.has") 0 [] .none .none .none .none none .none .none 0)), #[]⟩) ::
  (nat_lit 322, ⟨(.type "code"), none, (.fields #[(.str (.ofString "has") 665), (.str (.ofString "Picture.has") 666), (.str (.ofString "/claim/cut.py") 667), (.int 249 0), (.int 2 0), (.int 0 0), (.int 0 0), (.int 3 0), (.ref 319), (.bool true), (.int 181 0), (.ref 320), .none, .none, .none, (.ref 321), (.int 668 0), (.int 249 0), (.str (.ofString "/claim/cut.py") 669)]), #[]⟩) ::
  (nat_lit 323, ⟨(.type "function"), none, (.func (fd (sm 56 2) (.ofString "Picture.has") 3 [] .none .none .none (.str (.ofString "ledgerspeak.pictures") 612) none (.ref 322) .none 0)), #[]⟩) ::
  (nat_lit 324, ⟨(.type "tuple"), none, (.seq #[(.str (.ofString "category") 671), (.str (.ofString "digits") 672), (.str (.ofString "is_signed") 673), (.str (.ofString "scale") 674), (.str (.ofString "size") 675), (.str (.ofString "symbols") 676), (.str (.ofString "text") 677)] 0), #[]⟩) ::
  (nat_lit 325, ⟨(.type "dict"), none, (.dict #[de P "__module__" 639 (.str (.ofString "ledgerspeak.pictures") 612), de P "__firstlineno__" 643 (.int 235 642), de P "__init__" 657 (.ref 311), de P "told" 664 (.ref 318), de P "has" 670 (.ref 323), de P "__static_attributes__" 678 (.ref 324), de P "__dict__" 680 (.ref 327), de P "__weakref__" 682 (.ref 328), de P "__doc__" 683 .none] 4), #[]⟩) ::
  (nat_lit 326, ⟨(.type "type"), none, (.cls ⟨(.ofString "Picture"), [(.type "object")], [(.ref 326), (.type "object")], 325, (.ofString "Picture"), true, [], [], false, none, false⟩), #[none, none, (some (.str (.ofString "Picture") 632)), (some (.str (.ofString "Picture") 640)), (some (.builtin "object.__new__")), (some (.bool true))]⟩) ::
  (nat_lit 327, ⟨(.type "getset_descriptor"), none, (.fields #[(.str (.ofString "__dict__") 679), (.ref 326), (.builtin "function.__dict__"), (.builtin "function.__dict__#set")]), #[]⟩) ::
  (nat_lit 328, ⟨(.type "getset_descriptor"), none, (.fields #[(.str (.ofString "__weakref__") 681), (.ref 326), (.builtin "ExceptionGroup.__weakref__"), .none]), #[]⟩) ::
  (nat_lit 338, ⟨(.type "tuple"), none, (.seq #[] 0), #[]⟩) ::
  (nat_lit 339, ⟨.none, none, (.fields #[]), #[]⟩) ::
  (nat_lit 340, ⟨(.type "tuple"), none, (.seq #[(.str (.ofString "self") 701), (.str (.ofString "sign") 702), (.str (.ofString "count") 703), (.str (.ofString "at") 704)] 0), #[]⟩) ::
  (nat_lit 341, ⟨(.type "tuple"), none, (.seq #[] 0), #[]⟩) ::
  (nat_lit 342, ⟨.none, none, (.func (fd (sm 57 0) (.ofString "Sign.__init__") 0 [] .none .none .none .none none .none .none 0)), #[]⟩) ::
  (nat_lit 343, ⟨(.type "code"), none, (.fields #[(.str (.ofString "__init__") 698), (.str (.ofString "Sign.__init__") 699), (.str (.ofString "/claim/cut.py") 700), (.int 253 0), (.int 4 0), (.int 0 0), (.int 0 0), (.int 3 0), (.ref 338), (.bool true), (.int 181 0), (.ref 339), .none, (.ref 340), (.ref 341), (.ref 342), (.int 705 0), (.int 253 0), (.str (.ofString "/claim/cut.py") 706)]), #[]⟩) ::
  (nat_lit 344, ⟨(.type "function"), none, (.func (fd (sm 57 0) (.ofString "Sign.__init__") 3 [] .none .none .none (.str (.ofString "ledgerspeak.pictures") 612) none (.ref 343) .none 0)), #[]⟩) ::
  (nat_lit 345, ⟨(.type "tuple"), none, (.seq #[] 0), #[]⟩) ::
  (nat_lit 346, ⟨.none, none, (.fields #[]), #[]⟩) ::
  (nat_lit 347, ⟨(.type "tuple"), none, (.seq #[(.str (.ofString "self") 711)] 0), #[]⟩) ::
  (nat_lit 348, ⟨(.type "tuple"), none, (.seq #[] 0), #[]⟩) ::
  (nat_lit 349, ⟨.none, none, (.func (fd (sm 57 1) (.ofString "Sign.fault") 0 [] .none .none .none .none none .none .none 0)), #[]⟩) ::
  (nat_lit 350, ⟨(.type "code"), none, (.fields #[(.str (.ofString "fault") 708), (.str (.ofString "Sign.fault") 709), (.str (.ofString "/claim/cut.py") 710), (.int 258 0), (.int 1 0), (.int 0 0), (.int 0 0), (.int 3 0), (.ref 345), (.bool true), (.int 181 0), (.ref 346), .none, (.ref 347), (.ref 348), (.ref 349), (.int 712 0), (.int 258 0), (.str (.ofString "/claim/cut.py") 713)]), #[]⟩) ::
  (nat_lit 351, ⟨(.type "function"), none, (.func (fd (sm 57 1) (.ofString "Sign.fault") 3 [] .none .none .none (.str (.ofString "ledgerspeak.pictures") 612) none (.ref 350) .none 0)), #[]⟩) ::
  (nat_lit 352, ⟨(.type "tuple"), none, (.seq #[(.str (.ofString "at") 715), (.str (.ofString "count") 716), (.str (.ofString "sign") 717)] 0), #[]⟩) ::
  (nat_lit 353, ⟨(.type "dict"), none, (.dict #[de P "__module__" 693 (.str (.ofString "ledgerspeak.pictures") 612), de P "__firstlineno__" 697 (.int 251 696), de P "__init__" 707 (.ref 344), de P "fault" 714 (.ref 351), de P "__static_attributes__" 718 (.ref 352), de P "__dict__" 720 (.ref 355), de P "__weakref__" 722 (.ref 356), de P "__doc__" 723 .none] 4), #[]⟩) ::
  (nat_lit 354, ⟨(.type "type"), none, (.cls ⟨(.ofString "Sign"), [(.type "object")], [(.ref 354), (.type "object")], 353, (.ofString "Sign"), true, [], [], false, none, false⟩), #[none, none, (some (.str (.ofString "Sign") 686)), (some (.str (.ofString "Sign") 694)), (some (.builtin "object.__new__")), (some (.bool true))]⟩) ::
  (nat_lit 355, ⟨(.type "getset_descriptor"), none, (.fields #[(.str (.ofString "__dict__") 719), (.ref 354), (.builtin "function.__dict__"), (.builtin "function.__dict__#set")]), #[]⟩) ::
  (nat_lit 356, ⟨(.type "getset_descriptor"), none, (.fields #[(.str (.ofString "__weakref__") 721), (.ref 354), (.builtin "ExceptionGroup.__weakref__"), .none]), #[]⟩) ::
  (nat_lit 359, ⟨(.type "tuple"), none, (.seq #[] 0), #[]⟩) ::
  (nat_lit 360, ⟨.none, none, (.fields #[]), #[]⟩) ::
  (nat_lit 361, ⟨(.type "tuple"), none, (.seq #[(.str (.ofString "text") 729), (.str (.ofString "at") 730)] 0), #[]⟩) ::
  (nat_lit 362, ⟨(.type "tuple"), none, (.seq #[] 0), #[]⟩) ::
  (nat_lit 363, ⟨.none, none, (.func (fd (st 58) (.ofString "sign_at") 0 [] .none .none .none .none none .none .none 0)), #[]⟩) ::
  (nat_lit 364, ⟨(.type "code"), none, (.fields #[(.str (.ofString "sign_at") 726), (.str (.ofString "sign_at") 727), (.str (.ofString "/claim/cut.py") 728), (.int 260 0), (.int 2 0), (.int 0 0), (.int 0 0), (.int 3 0), (.ref 359), (.bool true), (.int 181 0), (.ref 360), .none, (.ref 361), (.ref 362), (.ref 363), (.int 731 0), (.int 260 0), (.str (.ofString "/claim/cut.py") 732)]), #[]⟩) ::
  (nat_lit 365, ⟨(.type "function"), none, (.func (fd (st 58) (.ofString "sign_at") 3 [] .none .none .none (.str (.ofString "ledgerspeak.pictures") 612) none (.ref 364) .none 0)), #[]⟩) ::
  (nat_lit 366, ⟨(.type "tuple"), none, (.seq #[] 0), #[]⟩) ::
  (nat_lit 367, ⟨.none, none, (.fields #[]), #[]⟩) ::
  (nat_lit 368, ⟨.none, none, (.func (fd (st 59) (.ofString "count_at") 0 [] .none .none .none .none none .none .none 0)), #[]⟩) ::
  (nat_lit 369, ⟨(.type "code"), none, (.fields #[(.str (.ofString "count_at") 734), (.str (.ofString "count_at") 735), (.str (.ofString "/claim/cut.py") 736), (.int 266 0), (.int 2 0), (.int 0 0), (.int 0 0), (.int 3 0), (.ref 366), (.bool true), (.int 181 0), (.ref 367), .none, .none, .none, (.ref 368), (.int 737 0), (.int 266 0), (.str (.ofString "/claim/cut.py") 738)]), #[]⟩) ::
  (nat_lit 370, ⟨(.type "function"), none, (.func (fd (st 59) (.ofString "count_at") 3 [] .none .none .none (.str (.ofString "ledgerspeak.pictures") 612) none (.ref 369) .none 0)), #[]⟩) ::
  (nat_lit 371, ⟨(.type "tuple"), none, (.seq #[] 0), #[]⟩) ::
  (nat_lit 372, ⟨.none, none, (.fields #[]), #[]⟩) ::
  (nat_lit 373, ⟨(.type "tuple"), none, (.seq #[(.str (.ofString "text") 743), (.str (.ofString "found") 744), (.str (.ofString "at") 745), (.str (.ofString "sign") 746), (.str (.ofString "count") 747), (.str (.ofString "end") 748)] 0), #[]⟩) ::
  (nat_lit 374, ⟨(.type "tuple"), none, (.seq #[] 0), #[]⟩) ::
  (nat_lit 375, ⟨.none, none, (.func (fd (st 60) (.ofString "signs_of") 0 [] .none .none .none .none none .none .none 0)), #[]⟩) ::
  (nat_lit 376, ⟨(.type "code"), none, (.fields #[(.str (.ofString "signs_of") 740), (.str (.ofString "signs_of") 741), (.str (.ofString "/claim/cut.py") 742), (.int 274 0), (.int 1 0), (.int 0 0), (.int 0 0), (.int 3 0), (.ref 371), (.bool true), (.int 181 0), (.ref 372), .none, (.ref 373), (.ref 374), (.ref 375), (.int 749 0), (.int 274 0), (.str (.ofString "/claim/cut.py") 750)]), #[]⟩) ::
  (nat_lit 377, ⟨(.type "function"), none, (.func (fd (st 60) (.ofString "signs_of") 3 [] .none .none .none (.str (.ofString "ledgerspeak.pictures") 612) none (.ref 376) .none 0)), #[]⟩) ::
  (nat_lit 378, ⟨(.type "tuple"), none, (.seq #[] 0), #[]⟩) ::
  (nat_lit 379, ⟨.none, none, (.fields #[]), #[]⟩) ::
  (nat_lit 380, ⟨(.type "tuple"), none, (.seq #[(.str (.ofString "signs") 755), (.str (.ofString "found") 756), (.str (.ofString "one") 757)] 0), #[]⟩) ::
  (nat_lit 381, ⟨(.type "tuple"), none, (.seq #[] 0), #[]⟩) ::
  (nat_lit 382, ⟨.none, none, (.func (fd (st 61) (.ofString "symbols_of") 0 [] .none .none .none .none none .none .none 0)), #[]⟩) ::
  (nat_lit 383, ⟨(.type "code"), none, (.fields #[(.str (.ofString "symbols_of") 752), (.str (.ofString "symbols_of") 753), (.str (.ofString "/claim/cut.py") 754), (.int 284 0), (.int 1 0), (.int 0 0), (.int 0 0), (.int 3 0), (.ref 378), (.bool true), (.int 181 0), (.ref 379), .none, (.ref 380), (.ref 381), (.ref 382), (.int 758 0), (.int 284 0), (.str (.ofString "/claim/cut.py") 759)]), #[]⟩) ::
  (nat_lit 384, ⟨(.type "function"), none, (.func (fd (st 61) (.ofString "symbols_of") 3 [] .none .none .none (.str (.ofString "ledgerspeak.pictures") 612) none (.ref 383) .none 0)), #[]⟩) ::
  (nat_lit 385, ⟨(.type "tuple"), none, (.seq #[] 0), #[]⟩) ::
  (nat_lit 386, ⟨.none, none, (.fields #[]), #[]⟩) ::
  (nat_lit 387, ⟨.none, none, (.func (fd (st 62) (.ofString "size_of_symbols") 0 [] .none .none .none .none none .none .none 0)), #[]⟩) ::
  (nat_lit 388, ⟨(.type "code"), none, (.fields #[(.str (.ofString "size_of_symbols") 761), (.str (.ofString "size_of_symbols") 762), (.str (.ofString "/claim/cut.py") 763), (.int 292 0), (.int 1 0), (.int 0 0), (.int 0 0), (.int 3 0), (.ref 385), (.bool true), (.int 181 0), (.ref 386), .none, .none, .none, (.ref 387), (.int 764 0), (.int 292 0), (.str (.ofString "/claim/cut.py") 765)]), #[]⟩) ::
  (nat_lit 389, ⟨(.type "function"), none, (.func (fd (st 62) (.ofString "size_of_symbols") 3 [] .none .none .none (.str (.ofString "ledgerspeak.pictures") 612) none (.ref 388) .none 0)), #[]⟩) ::
  (nat_lit 397, ⟨(.type "tuple"), none, (.seq #[] 0), #[]⟩) ::
  (nat_lit 398, ⟨.none, none, (.fields #[]), #[]⟩) ::
  (nat_lit 399, ⟨(.type "tuple"), none, (.seq #[(.str (.ofString "self") 782)] 0), #[]⟩) ::
  (nat_lit 400, ⟨(.type "tuple"), none, (.seq #[] 0), #[]⟩) ::
  (nat_lit 401, ⟨.none, none, (.func (fd (sm 63 0) (.ofString "Order.__init__") 0 [] .none .none .none .none none .none .none 0)), #[]⟩) ::
  (nat_lit 402, ⟨(.type "code"), none, (.fields #[(.str (.ofString "__init__") 779), (.str (.ofString "Order.__init__") 780), (.str (.ofString "/claim/cut.py") 781), (.int 296 0), (.int 1 0), (.int 0 0), (.int 0 0), (.int 3 0), (.ref 397), (.bool true), (.int 181 0), (.ref 398), .none, (.ref 399), (.ref 400), (.ref 401), (.int 783 0), (.int 296 0), (.str (.ofString "/claim/cut.py") 784)]), #[]⟩) ::
  (nat_lit 403, ⟨(.type "function"), none, (.func (fd (sm 63 0) (.ofString "Order.__init__") 3 [] .none .none .none (.str (.ofString "ledgerspeak.pictures") 612) none (.ref 402) .none 0)), #[]⟩) ::
  (nat_lit 404, ⟨(.type "tuple"), none, (.seq #[] 0), #[]⟩) ::
  (nat_lit 405, ⟨.none, none, (.fields #[]), #[]⟩) ::
  (nat_lit 406, ⟨(.type "tuple"), none, (.seq #[(.str (.ofString "self") 789)] 0), #[]⟩) ::
  (nat_lit 407, ⟨(.type "tuple"), none, (.seq #[] 0), #[]⟩) ::
  (nat_lit 408, ⟨.none, none, (.func (fd (sm 63 1) (.ofString "Order.digits") 0 [] .none .none .none .none none .none .none 0)), #[]⟩) ::
  (nat_lit 409, ⟨(.type "code"), none, (.fields #[(.str (.ofString "digits") 786), (.str (.ofString "Order.digits") 787), (.str (.ofString "/claim/cut.py") 788), (.int 314 0), (.int 1 0), (.int 0 0), (.int 0 0), (.int 3 0), (.ref 404), (.bool true), (.int 181 0), (.ref 405), .none, (.ref 406), (.ref 407), (.ref 408), (.int 790 0), (.int 314 0), (.str (.ofString "/claim/cut.py") 791)]), #[]⟩) ::
  (nat_lit 410, ⟨(.type "function"), none, (.func (fd (sm 63 1) (.ofString "Order.digits") 3 [] .none .none .none (.str (.ofString "ledgerspeak.pictures") 612) none (.ref 409) .none 0)), #[]⟩) ::
  (nat_lit 411, ⟨(.type "tuple"), none, (.seq #[] 0), #[]⟩) ::
  (nat_lit 412, ⟨.none, none, (.fields #[]), #[]⟩) ::
  (nat_lit 413, ⟨(.type "tuple"), none, (.seq #[(.str (.ofString "self") 796), (.str (.ofString "count") 797), (.str (.ofString "is_loose") 798)] 0), #[]⟩) ::
  (nat_lit 414, ⟨(.type "tuple"), none, (.seq #[] 0), #[]⟩) ::
  (nat_lit 415, ⟨.none, none, (.func (fd (sm 63 2) (.ofString "Order.add_behind") 0 [] .none .none .none .none none .none .none 0)), #[]⟩) ::
  (nat_lit 416, ⟨(.type "code"), none, (.fields #[(.str (.ofString "add_behind") 793), (.str (.ofString "Order.add_behind") 794), (.str (.ofString "/claim/cut.py") 795), (.int 317 0), (.int 3 0), (.int 0 0), (.int 0 0), (.int 3 0), (.ref 411), (.bool true), (.int 181 0), (.ref 412), .none, (.ref 413), (.ref 414), (.ref 415), (.int 799 0), (.int 317 0), (.str (.ofString "/claim/cut.py") 800)]), #[]⟩) ::
  (nat_lit 417, ⟨(.type "function"), none, (.func (fd (sm 63 2) (.ofString "Order.add_behind") 3 [] .none .none .none (.str (.ofString "ledgerspeak.pictures") 612) none (.ref 416) .none 0)), #[]⟩) ::
  (nat_lit 418, ⟨(.type "tuple"), none, (.seq #[] 0), #[]⟩) ::
  (nat_lit 419, ⟨.none, none, (.fields #[]), #[]⟩) ::
  (nat_lit 420, ⟨(.type "tuple"), none, (.seq #[(.str (.ofString "self") 805), (.str (.ofString "one") 806)] 0), #[]⟩) ::
  (nat_lit 421, ⟨(.type "tuple"), none, (.seq #[] 0), #[]⟩) ::
  (nat_lit 422, ⟨.none, none, (.func (fd (sm 63 3) (.ofString "Order.take_nine") 0 [] .none .none .none .none none .none .none 0)), #[]⟩) ::
  (nat_lit 423, ⟨(.type "code"), none, (.fields #[(.str (.ofString "take_nine") 802), (.str (.ofString "Order.take_nine") 803), (.str (.ofString "/claim/cut.py") 804), (.int 322 0), (.int 2 0), (.int 0 0), (.int 0 0), (.int 3 0), (.ref 418), (.bool true), (.int 181 0), (.ref 419), .none, (.ref 420), (.ref 421), (.ref 422), (.int 807 0), (.int 322 0), (.str (.ofString "/claim/cut.py") 808)]), #[]⟩) ::
  (nat_lit 424, ⟨(.type "function"), none, (.func (fd (sm 63 3) (.ofString "Order.take_nine") 3 [] .none .none .none (.str (.ofString "ledgerspeak.pictures") 612) none (.ref 423) .none 0)), #[]⟩) ::
  (nat_lit 425, ⟨(.type "tuple"), none, (.seq #[] 0), #[]⟩) ::
  (nat_lit 426, ⟨.none, none, (.fields #[]), #[]⟩) ::
  (nat_lit 427, ⟨(.type "tuple"), none, (.seq #[(.str (.ofString "self") 813), (.str (.ofString "one") 814)] 0), #[]⟩) ::
  (nat_lit 428, ⟨(.type "tuple"), none, (.seq #[] 0), #[]⟩) ::
  (nat_lit 429, ⟨.none, none, (.func (fd (sm 63 4) (.ofString "Order.take_zero") 0 [] .none .none .none .none none .none .none 0)), #[]⟩) ::
  (nat_lit 430, ⟨(.type "code"), none, (.fields #[(.str (.ofString "take_zero") 810), (.str (.ofString "Order.take_zero") 811), (.str (.ofString "/claim/cut.py") 812), (.int 328 0), (.int 2 0), (.int 0 0), (.int 0 0), (.int 3 0), (.ref 425), (.bool true), (.int 181 0), (.ref 426), .none, (.ref 427), (.ref 428), (.ref 429), (.int 815 0), (.int 328 0), (.str (.ofString "/claim/cut.py") 816)]), #[]⟩) ::
  (nat_lit 431, ⟨(.type "function"), none, (.func (fd (sm 63 4) (.ofString "Order.take_zero") 3 [] .none .none .none (.str (.ofString "ledgerspeak.pictures") 612) none (.ref 430) .none 0)), #[]⟩) ::
  (nat_lit 432, ⟨(.type "tuple"), none, (.seq #[] 0), #[]⟩) ::
  (nat_lit 433, ⟨.none, none, (.fields #[]), #[]⟩) ::
  (nat_lit 434, ⟨(.type "tuple"), none, (.seq #[(.str (.ofString "self") 821), (.str (.ofString "one") 822)] 0), #[]⟩) ::
  (nat_lit 435, ⟨(.type "tuple"), none, (.seq #[] 0), #[]⟩) ::
  (nat_lit 436, ⟨.none, none, (.func (fd (sm 63 5) (.ofString "Order.take_point") 0 [] .none .none .none .none none .none .none 0)), #[]⟩) ::
  (nat_lit 437, ⟨(.type "code"), none, (.fields #[(.str (.ofString "take_point") 818), (.str (.ofString "Order.take_point") 819), (.str (.ofString "/claim/cut.py") 820), (.int 335 0), (.int 2 0), (.int 0 0), (.int 0 0), (.int 3 0), (.ref 432), (.bool true), (.int 181 0), (.ref 433), .none, (.ref 434), (.ref 435), (.ref 436), (.int 823 0), (.int 335 0), (.str (.ofString "/claim/cut.py") 824)]), #[]⟩) ::
  (nat_lit 438, ⟨(.type "function"), none, (.func (fd (sm 63 5) (.ofString "Order.take_point") 3 [] .none .none .none (.str (.ofString "ledgerspeak.pictures") 612) none (.ref 437) .none 0)), #[]⟩) ::
  (nat_lit 439, ⟨(.type "tuple"), none, (.seq #[] 0), #[]⟩) ::
  (nat_lit 440, ⟨.none, none, (.fields #[]), #[]⟩) ::
  (nat_lit 441, ⟨(.type "tuple"), none, (.seq #[(.str (.ofString "self") 829), (.str (.ofString "one") 830)] 0), #[]⟩) ::
  (nat_lit 442, ⟨(.type "tuple"), none, (.seq #[] 0), #[]⟩) ::
  (nat_lit 443, ⟨.none, none, (.func (fd (sm 63 6) (.ofString "Order.take_scaling") 0 [] .none .none .none .none none .none .none 0)), #[]⟩) ::
  (nat_lit 444, ⟨(.type "code"), none, (.fields #[(.str (.ofString "take_scaling") 826), (.str (.ofString "Order.take_scaling") 827), (.str (.ofString "/claim/cut.py") 828), (.int 340 0), (.int 2 0), (.int 0 0), (.int 0 0), (.int 3 0), (.ref 439), (.bool true), (.int 181 0), (.ref 440), .none, (.ref 441), (.ref 442), (.ref 443), (.int 831 0), (.int 340 0), (.str (.ofString "/claim/cut.py") 832)]), #[]⟩) ::
  (nat_lit 445, ⟨(.type "function"), none, (.func (fd (sm 63 6) (.ofString "Order.take_scaling") 3 [] .none .none .none (.str (.ofString "ledgerspeak.pictures") 612) none (.ref 444) .none 0)), #[]⟩) ::
  (nat_lit 446, ⟨(.type "tuple"), none, (.seq #[] 0), #[]⟩) ::
  (nat_lit 447, ⟨.none, none, (.fields #[]), #[]⟩) ::
  (nat_lit 448, ⟨(.type "tuple"), none, (.seq #[(.str (.ofString "self") 837), (.str (.ofString "one") 838)] 0), #[]⟩) ::
  (nat_lit 449, ⟨(.type "tuple"), none, (.seq #[] 0), #[]⟩) ::
  (nat_lit 450, ⟨.none, none, (.func (fd (sm 63 7) (.ofString "Order.take_inserted") 0 [] .none .none .none .none none .none .none 0)), #[]⟩) ::
  (nat_lit 451, ⟨(.type "code"), none, (.fields #[(.str (.ofString "take_inserted") 834), (.str (.ofString "Order.take_inserted") 835), (.str (.ofString "/claim/cut.py") 836), (.int 350 0), (.int 2 0), (.int 0 0), (.int 0 0), (.int 3 0), (.ref 446), (.bool true), (.int 181 0), (.ref 447), .none, (.ref 448), (.ref 449), (.ref 450), (.int 839 0), (.int 350 0), (.str (.ofString "/claim/cut.py") 840)]), #[]⟩) ::
  (nat_lit 452, ⟨(.type "function"), none, (.func (fd (sm 63 7) (.ofString "Order.take_inserted") 3 [] .none .none .none (.str (.ofString "ledgerspeak.pictures") 612) none (.ref 451) .none 0)), #[]⟩) ::
  (nat_lit 453, ⟨(.type "tuple"), none, (.seq #[] 0), #[]⟩) ::
  (nat_lit 454, ⟨.none, none, (.fields #[]), #[]⟩) ::
  (nat_lit 455, ⟨(.type "tuple"), none, (.seq #[(.str (.ofString "self") 845), (.str (.ofString "one") 846), (.str (.ofString "count") 847)] 0), #[]⟩) ::
  (nat_lit 456, ⟨(.type "tuple"), none, (.seq #[] 0), #[]⟩) ::
  (nat_lit 457, ⟨.none, none, (.func (fd (sm 63 8) (.ofString "Order.float_on") 0 [] .none .none .none .none none .none .none 0)), #[]⟩) ::
  (nat_lit 458, ⟨(.type "code"), none, (.fields #[(.str (.ofString "float_on") 842), (.str (.ofString "Order.float_on") 843), (.str (.ofString "/claim/cut.py") 844), (.int 355 0), (.int 3 0), (.int 0 0), (.int 0 0), (.int 3 0), (.ref 453), (.bool true), (.int 181 0), (.ref 454), .none, (.ref 455), (.ref 456), (.ref 457), (.int 848 0), (.int 355 0), (.str (.ofString "/claim/cut.py") 849)]), #[]⟩) ::
  (nat_lit 459, ⟨(.type "function"), none, (.func (fd (sm 63 8) (.ofString "Order.float_on") 3 [] .none .none .none (.str (.ofString "ledgerspeak.pictures") 612) none (.ref 458) .none 0)), #[]⟩) ::
  (nat_lit 460, ⟨(.type "tuple"), none, (.seq #[] 0), #[]⟩) ::
  (nat_lit 461, ⟨.none, none, (.fields #[]), #[]⟩) ::
  (nat_lit 462, ⟨(.type "tuple"), none, (.seq #[(.str (.ofString "self") 854)] 0), #[]⟩) ::
  (nat_lit 463, ⟨(.type "tuple"), none, (.seq #[] 0), #[]⟩) ::
  (nat_lit 464, ⟨.none, none, (.func (fd (sm 63 9) (.ofString "Order.may_float") 0 [] .none .none .none .none none .none .none 0)), #[]⟩) ::
  (nat_lit 465, ⟨(.type "code"), none, (.fields #[(.str (.ofString "may_float") 851), (.str (.ofString "Order.may_float") 852), (.str (.ofString "/claim/cut.py") 853), (.int 359 0), (.int 1 0), (.int 0 0), (.int 0 0), (.int 3 0), (.ref 460), (.bool true), (.int 181 0), (.ref 461), .none, (.ref 462), (.ref 463), (.ref 464), (.int 855 0), (.int 359 0), (.str (.ofString "/claim/cut.py") 856)]), #[]⟩) ::
  (nat_lit 466, ⟨(.type "function"), none, (.func (fd (sm 63 9) (.ofString "Order.may_float") 3 [] .none .none .none (.str (.ofString "ledgerspeak.pictures") 612) none (.ref 465) .none 0)), #[]⟩) ::
  (nat_lit 467, ⟨(.type "tuple"), none, (.seq #[] 0), #[]⟩) ::
  (nat_lit 468, ⟨.none, none, (.fields #[]), #[]⟩) ::
  (nat_lit 469, ⟨(.type "tuple"), none, (.seq #[(.str (.ofString "self") 861), (.str (.ofString "one") 862)] 0), #[]⟩) ::
  (nat_lit 470, ⟨(.type "tuple"), none, (.seq #[] 0), #[]⟩) ::
  (nat_lit 471, ⟨.none, none, (.func (fd (sm 63 10) (.ofString "Order.take_sign") 0 [] .none .none .none .none none .none .none 0)), #[]⟩) ::
  (nat_lit 472, ⟨(.type "code"), none, (.fields #[(.str (.ofString "take_sign") 858), (.str (.ofString "Order.take_sign") 859), (.str (.ofString "/claim/cut.py") 860), (.int 362 0), (.int 2 0), (.int 0 0), (.int 0 0), (.int 3 0), (.ref 467), (.bool true), (.int 181 0), (.ref 468), .none, (.ref 469), (.ref 470), (.ref 471), (.int 863 0), (.int 362 0), (.str (.ofString "/claim/cut.py") 864)]), #[]⟩) ::
  (nat_lit 473, ⟨(.type "function"), none, (.func (fd (sm 63 10) (.ofString "Order.take_sign") 3 [] .none .none .none (.str (.ofString "ledgerspeak.pictures") 612) none (.ref 472) .none 0)), #[]⟩) ::
  (nat_lit 474, ⟨(.type "tuple"), none, (.seq #[] 0), #[]⟩) ::
  (nat_lit 475, ⟨.none, none, (.fields #[]), #[]⟩) ::
  (nat_lit 476, ⟨(.type "tuple"), none, (.seq #[(.str (.ofString "self") 869), (.str (.ofString "one") 870)] 0), #[]⟩) ::
  (nat_lit 477, ⟨(.type "tuple"), none, (.seq #[] 0), #[]⟩) ::
  (nat_lit 478, ⟨.none, none, (.func (fd (sm 63 11) (.ofString "Order.take_money") 0 [] .none .none .none .none none .none .none 0)), #[]⟩) ::
  (nat_lit 479, ⟨(.type "code"), none, (.fields #[(.str (.ofString "take_money") 866), (.str (.ofString "Order.take_money") 867), (.str (.ofString "/claim/cut.py") 868), (.int 371 0), (.int 2 0), (.int 0 0), (.int 0 0), (.int 3 0), (.ref 474), (.bool true), (.int 181 0), (.ref 475), .none, (.ref 476), (.ref 477), (.ref 478), (.int 871 0), (.int 371 0), (.str (.ofString "/claim/cut.py") 872)]), #[]⟩) ::
  (nat_lit 480, ⟨(.type "function"), none, (.func (fd (sm 63 11) (.ofString "Order.take_money") 3 [] .none .none .none (.str (.ofString "ledgerspeak.pictures") 612) none (.ref 479) .none 0)), #[]⟩) ::
  (nat_lit 481, ⟨(.type "tuple"), none, (.seq #[] 0), #[]⟩) ::
  (nat_lit 482, ⟨.none, none, (.fields #[]), #[]⟩) ::
  (nat_lit 483, ⟨(.type "tuple"), none, (.seq #[(.str (.ofString "self") 877), (.str (.ofString "one") 878)] 0), #[]⟩) ::
  (nat_lit 484, ⟨(.type "tuple"), none, (.seq #[] 0), #[]⟩) ::
  (nat_lit 485, ⟨.none, none, (.func (fd (sm 63 12) (.ofString "Order.take_end") 0 [] .none .none .none .none none .none .none 0)), #[]⟩) ::
  (nat_lit 486, ⟨(.type "code"), none, (.fields #[(.str (.ofString "take_end") 874), (.str (.ofString "Order.take_end") 875), (.str (.ofString "/claim/cut.py") 876), (.int 382 0), (.int 2 0), (.int 0 0), (.int 0 0), (.int 3 0), (.ref 481), (.bool true), (.int 181 0), (.ref 482), .none, (.ref 483), (.ref 484), (.ref 485), (.int 879 0), (.int 382 0), (.str (.ofString "/claim/cut.py") 880)]), #[]⟩) ::
  (nat_lit 487, ⟨(.type "function"), none, (.func (fd (sm 63 12) (.ofString "Order.take_end") 3 [] .none .none .none (.str (.ofString "ledgerspeak.pictures") 612) none (.ref 486) .none 0)), #[]⟩) ::
  (nat_lit 488, ⟨(.type "tuple"), none, (.seq #[] 0), #[]⟩) ::
  (nat_lit 489, ⟨.none, none, (.fields #[]), #[]⟩) ::
  (nat_lit 490, ⟨(.type "tuple"), none, (.seq #[(.str (.ofString "self") 885), (.str (.ofString "one") 886), (.str (.ofString "sign") 887)] 0), #[]⟩) ::
  (nat_lit 491, ⟨(.type "tuple"), none, (.seq #[] 0), #[]⟩) ::
  (nat_lit 492, ⟨.none, none, (.func (fd (sm 63 13) (.ofString "Order.take") 0 [] .none .none .none .none none .none .none 0)), #[]⟩) ::
  (nat_lit 493, ⟨(.type "code"), none, (.fields #[(.str (.ofString "take") 882), (.str (.ofString "Order.take") 883), (.str (.ofString "/claim/cut.py") 884), (.int 388 0), (.int 2 0), (.int 0 0), (.int 0 0), (.int 3 0), (.ref 488), (.bool true), (.int 181 0), (.ref 489), .none, (.ref 490), (.ref 491), (.ref 492), (.int 888 0), (.int 388 0), (.str (.ofString "/claim/cut.py") 889)]), #[]⟩) ::
  (nat_lit 494, ⟨(.type "function"), none, (.func (fd (sm 63 13) (.ofString "Order.take") 3 [] .none .none .none (.str (.ofString "ledgerspeak.pictures") 612) none (.ref 493) .none 0)), #[]⟩) ::
  (nat_lit 495, ⟨(.type "tuple"), none, (.seq #[] 0), #[]⟩) ::
  (nat_lit 496, ⟨.none, none, (.fields #[]), #[]⟩) ::
  (nat_lit 497, ⟨(.type "tuple"), none, (.seq #[(.str (.ofString "self") 894)] 0), #[]⟩) ::
  (nat_lit 498, ⟨(.type "tuple"), none, (.seq #[] 0), #[]⟩) ::
  (nat_lit 499, ⟨.none, none, (.func (fd (sm 63 14) (.ofString "Order.is_whole") 0 [] .none .none .none .none none .none .none 0)), #[]⟩) ::
  (nat_lit 500, ⟨(.type "code"), none, (.fields #[(.str (.ofString "is_whole") 891), (.str (.ofString "Order.is_whole") 892), (.str (.ofString "/claim/cut.py") 893), (.int 413 0), (.int 1 0), (.int 0 0), (.int 0 0), (.int 3 0), (.ref 495), (.bool true), (.int 181 0), (.ref 496), .none, (.ref 497), (.ref 498), (.ref 499), (.int 895 0), (.int 413 0), (.str (.ofString "/claim/cut.py") 896)]), #[]⟩) ::
  (nat_lit 501, ⟨(.type "function"), none, (.func (fd (sm 63 14) (.ofString "Order.is_whole") 3 [] .none .none .none (.str (.ofString "ledgerspeak.pictures") 612) none (.ref 500) .none 0)), #[]⟩) ::
  (nat_lit 502, ⟨(.type "tuple"), none, (.seq #[] 0), #[]⟩) ::
  (nat_lit 503, ⟨.none, none, (.fields #[]), #[]⟩) ::
  (nat_lit 504, ⟨(.type "tuple"), none, (.seq #[(.str (.ofString "self") 901)] 0), #[]⟩) ::
  (nat_lit 505, ⟨(.type "tuple"), none, (.seq #[] 0), #[]⟩) ::
  (nat_lit 506, ⟨.none, none, (.func (fd (sm 63 15) (.ofString "Order.scale") 0 [] .none .none .none .none none .none .none 0)), #[]⟩) ::
  (nat_lit 507, ⟨(.type "code"), none, (.fields #[(.str (.ofString "scale") 898), (.str (.ofString "Order.scale") 899), (.str (.ofString "/claim/cut.py") 900), (.int 418 0), (.int 1 0), (.int 0 0), (.int 0 0), (.int 3 0), (.ref 502), (.bool true), (.int 181 0), (.ref 503), .none, (.ref 504), (.ref 505), (.ref 506), (.int 902 0), (.int 418 0), (.str (.ofString "/claim/cut.py") 903)]), #[]⟩) ::
  (nat_lit 508, ⟨(.type "function"), none, (.func (fd (sm 63 15) (.ofString "Order.scale") 3 [] .none .none .none (.str (.ofString "ledgerspeak.pictures") 612) none (.ref 507) .none 0)), #[]⟩) ::
  (nat_lit 509, ⟨(.type "tuple"), none, (.seq #[(.str (.ofString "behind") 905), (.str (.ofString "floats") 906), (.str (.ofString "is_inserted") 907), (.str (.ofString "is_late") 908), (.str (.ofString "is_over") 909), (.str (.ofString "is_plain") 910), (.str (.ofString "last") 911), (.str (.ofString "lead") 912), (.str (.ofString "money") 913), (.str (.ofString "nines") 914), (.str (.ofString "point") 915), (.str (.ofString "seen") 916), (.str (.ofString "sign") 917), (.str (.ofString "trail") 918), (.str (.ofString "zero") 919), (.str (.ofString "zeros") 920)] 0), #[]⟩) ::
  (nat_lit 510, ⟨(.type "dict"), none, (.dict #[de P "__module__" 774 (.str (.ofString "ledgerspeak.pictures") 612), de P "__firstlineno__" 778 (.int 294 777), de P "__init__" 785 (.ref 403), de P "digits" 792 (.ref 410), de P "add_behind" 801 (.ref 417), de P "take_nine" 809 (.ref 424), de P "take_zero" 817 (.ref 431), de P "take_point" 825 (.ref 438), de P "take_scaling" 833 (.ref 445), de P "take_inserted" 841 (.ref 452), de P "float_on" 850 (.ref 459), de P "may_float" 857 (.ref 466), de P "take_sign" 865 (.ref 473), de P "take_money" 873 (.ref 480), de P "take_end" 881 (.ref 487), de P "take" 890 (.ref 494), de P "is_whole" 897 (.ref 501), de P "scale" 904 (.ref 508), de P "__static_attributes__" 921 (.ref 509), de P "__dict__" 923 (.ref 512), de P "__weakref__" 925 (.ref 513), de P "__doc__" 926 .none] 4), #[]⟩) ::
  (nat_lit 511, ⟨(.type "type"), none, (.cls ⟨(.ofString "Order"), [(.type "object")], [(.ref 511), (.type "object")], 510, (.ofString "Order"), true, [], [], false, none, false⟩), #[none, none, (some (.str (.ofString "Order") 767)), (some (.str (.ofString "Order") 775)), (some (.builtin "object.__new__")), (some (.bool true))]⟩) ::
  (nat_lit 512, ⟨(.type "getset_descriptor"), none, (.fields #[(.str (.ofString "__dict__") 922), (.ref 511), (.builtin "function.__dict__"), (.builtin "function.__dict__#set")]), #[]⟩) ::
  (nat_lit 513, ⟨(.type "getset_descriptor"), none, (.fields #[(.str (.ofString "__weakref__") 924), (.ref 511), (.builtin "ExceptionGroup.__weakref__"), .none]), #[]⟩) ::
  (nat_lit 516, ⟨(.type "tuple"), none, (.seq #[] 0), #[]⟩) ::
  (nat_lit 517, ⟨.none, none, (.fields #[]), #[]⟩) ::
  (nat_lit 518, ⟨.none, none, (.func (fd (st 64) (.ofString "number_picture") 0 [] .none .none .none .none none .none .none 0)), #[]⟩) ::
  (nat_lit 519, ⟨(.type "code"), none, (.fields #[(.str (.ofString "number_picture") 929), (.str (.ofString "number_picture") 930), (.str (.ofString "/claim/cut.py") 931), (.int 422 0), (.int 2 0), (.int 0 0), (.int 0 0), (.int 3 0), (.ref 516), (.bool true), (.int 181 0), (.ref 517), .none, .none, .none, (.ref 518), (.int 932 0), (.int 422 0), (.str (.ofString "/claim/cut.py") 933)]), #[]⟩) ::
  (nat_lit 520, ⟨(.type "function"), none, (.func (fd (st 64) (.ofString "number_picture") 3 [] .none .none .none (.str (.ofString "ledgerspeak.pictures") 612) none (.ref 519) .none 0)), #[]⟩) ::
  (nat_lit 521, ⟨(.type "tuple"), none, (.seq #[] 0), #[]⟩) ::
  (nat_lit 522, ⟨.none, none, (.fields #[]), #[]⟩) ::
  (nat_lit 523, ⟨.none, none, (.func (fd (st 65) (.ofString "text_category") 0 [] .none .none .none .none none .none .none 0)), #[]⟩) ::
  (nat_lit 524, ⟨(.type "code"), none, (.fields #[(.str (.ofString "text_category") 935), (.str (.ofString "text_category") 936), (.str (.ofString "/claim/cut.py") 937), (.int 432 0), (.int 1 0), (.int 0 0), (.int 0 0), (.int 3 0), (.ref 521), (.bool true), (.int 181 0), (.ref 522), .none, .none, .none, (.ref 523), (.int 938 0), (.int 432 0), (.str (.ofString "/claim/cut.py") 939)]), #[]⟩) ::
  (nat_lit 525, ⟨(.type "function"), none, (.func (fd (st 65) (.ofString "text_category") 3 [] .none .none .none (.str (.ofString "ledgerspeak.pictures") 612) none (.ref 524) .none 0)), #[]⟩) ::
  (nat_lit 526, ⟨(.type "tuple"), none, (.seq #[] 0), #[]⟩) ::
  (nat_lit 527, ⟨.none, none, (.fields #[]), #[]⟩) ::
  (nat_lit 528, ⟨(.type "tuple"), none, (.seq #[(.str (.ofString "text") 944), (.str (.ofString "signs") 945), (.str (.ofString "one") 946), (.str (.ofString "symbols") 947)] 0), #[]⟩) ::
  (nat_lit 529, ⟨(.type "tuple"), none, (.seq #[] 0), #[]⟩) ::
  (nat_lit 530, ⟨.none, none, (.func (fd (st 66) (.ofString "text_picture") 0 [] .none .none .none .none none .none .none 0)), #[]⟩) ::
  (nat_lit 531, ⟨(.type "code"), none, (.fields #[(.str (.ofString "text_picture") 941), (.str (.ofString "text_picture") 942), (.str (.ofString "/claim/cut.py") 943), (.int 437 0), (.int 2 0), (.int 0 0), (.int 0 0), (.int 3 0), (.ref 526), (.bool true), (.int 181 0), (.ref 527), .none, (.ref 528), (.ref 529), (.ref 530), (.int 948 0), (.int 437 0), (.str (.ofString "/claim/cut.py") 949)]), #[]⟩) ::
  (nat_lit 532, ⟨(.type "function"), none, (.func (fd (st 66) (.ofString "text_picture") 3 [] .none .none .none (.str (.ofString "ledgerspeak.pictures") 612) none (.ref 531) .none 0)), #[]⟩) ::
  (nat_lit 533, ⟨(.type "tuple"), none, (.seq #[] 0), #[]⟩) ::
  (nat_lit 534, ⟨.none, none, (.fields #[]), #[]⟩) ::
  (nat_lit 535, ⟨.none, none, (.func (fd (st 67) (.ofString "read_picture") 0 [] .none .none .none .none none .none .none 0)), #[]⟩) ::
  (nat_lit 536, ⟨(.type "code"), none, (.fields #[(.str (.ofString "read_picture") 951), (.str (.ofString "read_picture") 952), (.str (.ofString "/claim/cut.py") 953), (.int 445 0), (.int 1 0), (.int 0 0), (.int 0 0), (.int 3 0), (.ref 533), (.bool true), (.int 181 0), (.ref 534), .none, .none, .none, (.ref 535), (.int 954 0), (.int 445 0), (.str (.ofString "/claim/cut.py") 955)]), #[]⟩) ::
  (nat_lit 537, ⟨(.type "function"), none, (.func (fd (st 67) (.ofString "read_picture") 3 [] .none .none .none (.str (.ofString "ledgerspeak.pictures") 612) none (.ref 536) .none 0)), #[]⟩) ::
  (nat_lit 538, ⟨(.type "tuple"), none, (.seq #[] 0), #[]⟩) ::
  (nat_lit 539, ⟨.none, none, (.fields #[]), #[]⟩) ::
  (nat_lit 540, ⟨(.type "tuple"), none, (.seq #[(.str (.ofString "wanted") 962), (.str (.ofString "one") 963), (.str (.ofString "other") 964), (.str (.ofString "is_ascending") 965), (.str (.ofString "place") 966)] 0), #[]⟩) ::
  (nat_lit 541, ⟨(.type "tuple"), none, (.seq #[] 0), #[]⟩) ::
  (nat_lit 542, ⟨.none, none, (.func (fd (st 69) (.ofString "_law_is_ahead") 0 [] .none .none .none .none none .none .none 0)), #[]⟩) ::
  (nat_lit 543, ⟨(.type "code"), none, (.fields #[(.str (.ofString "_law_is_ahead") 959), (.str (.ofString "_law_is_ahead") 960), (.str (.ofString "/claim/cut.py") 961), (.int 454 0), (.int 3 0), (.int 0 0), (.int 0 0), (.int 3 0), (.ref 538), (.bool true), (.int 181 0), (.ref 539), .none, (.ref 540), (.ref 541), (.ref 542), (.int 967 0), (.int 454 0), (.str (.ofString "/claim/cut.py") 968)]), #[]⟩) ::
  (nat_lit 544, ⟨(.type "function"), none, (.func (fd (st 69) (.ofString "_law_is_ahead") 3 [] .none .none .none (.str (.ofString "law_pc0145_01") 957) none (.ref 543) .none 0)), #[]⟩) ::
  (nat_lit 545, ⟨(.type "tuple"), none, (.seq #[] 0), #[]⟩) ::
  (nat_lit 546, ⟨.none, none, (.fields #[]), #[]⟩) ::
  (nat_lit 547, ⟨.none, none, (.func (fd (st 70) (.ofString "_law_in_order") 0 [] .none .none .none .none none .none .none 0)), #[]⟩) ::
  (nat_lit 548, ⟨(.type "code"), none, (.fields #[(.str (.ofString "_law_in_order") 970), (.str (.ofString "_law_in_order") 971), (.str (.ofString "/claim/cut.py") 972), (.int 459 0), (.int 2 0), (.int 0 0), (.int 0 0), (.int 3 0), (.ref 545), (.bool true), (.int 181 0), (.ref 546), .none, .none, .none, (.ref 547), (.int 973 0), (.int 459 0), (.str (.ofString "/claim/cut.py") 974)]), #[]⟩) ::
  (nat_lit 549, ⟨(.type "function"), none, (.func (fd (st 70) (.ofString "_law_in_order") 3 [] .none .none .none (.str (.ofString "law_pc0145_01") 957) none (.ref 548) .none 0)), #[]⟩) ::
  (nat_lit 550, ⟨(.type "tuple"), none, (.seq #[] 0), #[]⟩) ::
  (nat_lit 551, ⟨.none, none, (.fields #[]), #[]⟩) ::
  (nat_lit 552, ⟨.none, none, (.func (fd (st 71) (.ofString "law") 0 [] .none .none .none .none none .none .none 0)), #[]⟩) ::
  (nat_lit 553, ⟨(.type "code"), none, (.fields #[(.str (.ofString "law") 976), (.str (.ofString "law") 977), (.str (.ofString "/claim/cut.py") 978), (.int 465 0), (.int 1 0), (.int 0 0), (.int 0 0), (.int 3 0), (.ref 550), (.bool true), (.int 181 0), (.ref 551), .none, .none, .none, (.ref 552), (.int 979 0), (.int 465 0), (.str (.ofString "/claim/cut.py") 980)]), #[]⟩) ::
  (nat_lit 554, ⟨(.type "function"), none, (.func (fd (st 71) (.ofString "law") 3 [] .none .none .none (.str (.ofString "law_pc0145_01") 957) none (.ref 553) .none 0)), #[]⟩) :: []
noncomputable def hd.addrs : List Addr := [0, 1, 2, 3, 4, 5, 6, 7, 8, 9, 10, 11, 12, 13, 14, 15, 22, 23, 24, 25, 26, 27, 28, 29, 30, 31, 32, 33, 34, 35, 36, 37, 38, 39, 40, 41, 44, 51, 52, 53, 56, 63, 64, 65, 68, 75, 76, 77, 87, 88, 89, 90, 91, 92, 93, 94, 95, 96, 97, 98, 99, 100, 101, 102, 103, 104, 105, 106, 107, 108, 109, 110, 111, 112, 113, 116, 117, 118, 119, 120, 121, 122, 123, 124, 125, 126, 127, 128, 129, 130, 131, 132, 133, 134, 135, 136, 137, 138, 139, 140, 141, 142, 143, 144, 145, 146, 147, 148, 149, 150, 151, 152, 153, 154, 155, 156, 157, 158, 159, 160, 161, 162, 163, 164, 165, 166, 167, 168, 169, 170, 171, 172, 173, 174, 175, 176, 177, 178, 179, 180, 181, 182, 183, 184, 185, 186, 187, 188, 189, 190, 191, 192, 193, 194, 195, 196, 197, 198, 199, 200, 201, 202, 203, 204, 205, 206, 207, 208, 209, 210, 211, 212, 213, 214, 215, 216, 217, 218, 219, 220, 221, 222, 223, 224, 225, 226, 227, 228, 229, 230, 231, 232, 233, 234, 235, 236, 237, 238, 239, 240, 241, 242, 243, 244, 245, 246, 247, 248, 249, 250, 251, 252, 253, 254, 255, 256, 257, 258, 259, 260, 261, 262, 263, 264, 265, 266, 267, 268, 269, 270, 271, 272, 273, 274, 275, 276, 277, 278, 279, 280, 281, 282, 283, 284, 285, 286, 287, 288, 289, 290, 291, 292, 293, 294, 295, 296, 297, 305, 306, 307, 308, 309, 310, 311, 312, 313, 314, 315, 316, 317, 318, 319, 320, 321, 322, 323, 324, 325, 326, 327, 328, 338, 339, 340, 341, 342, 343, 344, 345, 346, 347, 348, 349, 350, 351, 352, 353, 354, 355, 356, 359, 360, 361, 362, 363, 364, 365, 366, 367, 368, 369, 370, 371, 372, 373, 374, 375, 376, 377, 378, 379, 380, 381, 382, 383, 384, 385, 386, 387, 388, 389, 397, 398, 399, 400, 401, 402, 403, 404, 405, 406, 407, 408, 409, 410, 411, 412, 413, 414, 415, 416, 417, 418, 419, 420, 421, 422, 423, 424, 425, 426, 427, 428, 429, 430, 431, 432, 433, 434, 435, 436, 437, 438, 439, 440, 441, 442, 443, 444, 445, 446, 447, 448, 449, 450, 451, 452, 453, 454, 455, 456, 457, 458, 459, 460, 461, 462, 463, 464, 465, 466, 467, 468, 469, 470, 471, 472, 473, 474, 475, 476, 477, 478, 479, 480, 481, 482, 483, 484, 485, 486, 487, 488, 489, 490, 491, 492, 493, 494, 495, 496, 497, 498, 499, 500, 501, 502, 503, 504, 505, 506, 507, 508, 509, 510, 511, 512, 513, 516, 517, 518, 519, 520, 521, 522, 523, 524, 525, 526, 527, 528, 529, 530, 531, 532, 533, 534, 535, 536, 537, 538, 539, 540, 541, 542, 543, 544, 545, 546, 547, 548, 549, 550, 551, 552, 553, 554]
/-- the program, less its statements that bind nothing the law reads -/
noncomputable def hd.view_39 : Program := view PySem.Challenge.rw_pc0145_01.row.prog [1, 2, 3, 4, 6, 7, 8, 9, 10, 11, 12, 13, 14, 15, 16, 19, 20, 21, 22, 23, 24, 25, 26, 27, 28, 29, 30, 31, 32, 33, 34, 35, 36, 37, 38, 40, 41, 42, 43, 44, 45, 47, 48, 49, 50, 51, 52, 53, 54, 55, 56, 57, 58, 59, 60, 61, 62, 63, 64, 65, 66, 67, 69, 70, 71]
theorem hd.addrs_of (P : Params) : hd.addrs = (hd.heap_39 P).map (·.1) := by kernel_rfl
/-- a top's run over a heap that is a tree -/
noncomputable def runG (thr : Thread → Bool) (ok : Nat → Option Value → Thread → Bool) (stp : SharedT → Thread → Option (SharedT × Thread)) (n₀ : Nat) (ann : Option Value) : Nat → SharedT → Thread → Option SharedT
  | 0, _, _ => none
  | n + 1, s, t => match thr t with
    | true => some s
    | false => match ok n₀ ann t with
      | false => none
      | true => match stp s t with
        | some (s', t') => runG thr ok stp n₀ ann n s' t'
        | none => none
theorem runG_of {tb : String → Option Builtin} {p : Program} {w : World} {n₀ : Nat} {ann : Option Value} : ∀ {n : Nat} {s s' : SharedT} {t : Thread}, runG through stepOk (stepT (denote tb) p w) n₀ ann n s t = some s' → topRun tb p w n₀ ann n s.abs t = some s'.abs
  | 0, _, _, _, h => by cases h
  | n + 1, s, s', t, h => by
    unfold runG at h
    unfold topRun
    cases ht : through t with
    | true => rw [ht] at h; cases h; rfl
    | false =>
      rw [ht] at h
      cases hk : stepOk n₀ ann t with
      | false => rw [hk] at h; cases h
      | true =>
        rw [hk] at h
        cases hs : stepT (denote tb) p w s t with
        | none => rw [hs] at h; cases h
        | some r => obtain ⟨s₂, t₂⟩ := r; rw [hs] at h; rw [stepT_spec hs]; exact runG_of h
noncomputable def ofL : List Obj → Nat → BT → BT
  | [], _, t => t
  | o :: l, i, t => ofL l (i + 1) (t.ins i o)
noncomputable def bootT (P : Params) : BT := ofL (boot_heap P).objs.toList 0 .nil
theorem left_tree {p q : Program} {loose : List Str} {Xt : Shared → Bool} {α : Type} {Yf : Shared → α} {Ya : World → α} {N M m₀ : Nat} {ann : Option Value}
    (open_ : ∀ w : World, (fencedOpening treeTable p w N).map (fun s => (s.heap, s.gens, s.drawn, s.toks)) = some (boot_heap w.params, Array.mk [], boot_drawn, boot_toks))
    (size : ∀ P : Params, ((boot_heap P).isNs mainGlobals, (boot_heap P).objs.size, (boot_heap P).nsMap mainGlobals "__annotations__") = (true, m₀, ann))
    (tree : ∀ P : Params, absHeap (bootT P) m₀ (boot_heap P).life = boot_heap P) (le : Nat.ble M N = true)
    (run : ∀ w : World, (fun os => (runG through stepOk (stepT (denote treeTable) p w) m₀ ann M ⟨bootT w.params, m₀, (boot_heap w.params).life, Array.mk [], boot_drawn, boot_toks, os⟩ (topStub p)).map (fun s => ((staticsOk (importedModules p.main.body) (boot_heap w.params) s.abs.heap && namesBound p s.abs.heap && gensDone s.abs && laidKept (boot_heap w.params) s.abs.heap),
        openSeen q loose (importedModules p.main.body) Xt true s.abs))) = fun _ => some (true, openGood q loose))
    (run2 : ∀ w : World, (fun os => (runG through stepOk (stepT (denote treeTable) p w) m₀ ann M ⟨bootT w.params, m₀, (boot_heap w.params).life, Array.mk [], boot_drawn, boot_toks, os⟩ (topStub p)).map (fun s => Yf s.abs)) = fun _ => some (Ya w)) : LeftO p q loose Xt Yf Ya N := fun w => by
  obtain ⟨⟨h, gs, d, k, os⟩, e, e'⟩ := Option.map_eq_some_iff.mp (open_ w)
  obtain ⟨rfl, rfl, rfl, rfl⟩ : h = boot_heap w.params ∧ gs = Array.mk [] ∧ d = boot_drawn ∧ k = boot_toks := by simpa using e'
  obtain ⟨z1, z2, z3⟩ : _ ∧ _ ∧ _ := by simpa only [Prod.mk.injEq] using size w.params
  obtain ⟨s', r, l⟩ := Option.map_eq_some_iff.mp (congrFun (run w) os)
  obtain ⟨l1, l2⟩ : _ ∧ _ := by simpa only [Prod.mk.injEq] using l
  obtain ⟨s'', r2, l3⟩ := Option.map_eq_some_iff.mp (congrFun (run2 w) os)
  obtain rfl : s' = s'' := Option.some.inj (r.symm.trans r2)
  have r := topRun_mono (N - M) _ _ _ _ (runG_of r)
  rw [show M + (N - M) = N by have := Nat.le_of_ble_eq_true le; omega] at r
  have ea : (⟨bootT w.params, m₀, (boot_heap w.params).life, Array.mk [], boot_drawn, boot_toks, os⟩ : SharedT).abs = ⟨boot_heap w.params, Array.mk [], boot_drawn, boot_toks, os⟩ := by
    unfold SharedT.abs
    dsimp only
    rw [tree]
  rw [ea] at r
  have t : topFrom treeTable p w N ⟨boot_heap w.params, Array.mk [], boot_drawn, boot_toks, os⟩ = some s'.abs := by
    unfold topFrom
    dsimp only
    rw [z1, z2, z3, r]
    show (match staticsOk (importedModules p.main.body) (boot_heap w.params) s'.abs.heap && namesBound p s'.abs.heap && gensDone s'.abs && laidKept (boot_heap w.params) s'.abs.heap with | true => _ | false => _) = _
    rw [l1]
  unfold openEnds
  rw [e]
  show (topFrom treeTable p w N _).map _ = _
  rw [t]
  exact congrArg some (Prod.ext l2 l3)
noncomputable abbrev hd.prog : Program := PySem.Challenge.rw_pc0145_01.row.prog
noncomputable abbrev hd.loose : List Str := [Str.ofString "LedgerError", Str.ofString "shape_of"]
noncomputable abbrev hd.xt : Shared → Bool := fun s => xlAt hd.view_39 [] s && recOk (RowW.records (OpenRow.toRowW PySem.Challenge.rw_pc0145_01.row)) s
noncomputable def hd.lawD : DefRec := match st 71 with | .FunctionDef n a b _ _ _ sc _ _ p => ⟨n, a, b, sc, p⟩ | _ => ⟨default, default, [], default, default⟩
set_option maxRecDepth 100000 in
theorem hd.run1a : ∀ w : World, (fun os => (runG through stepOk (stepT (denote treeTable) hd.prog w) 11 (some (.ref 6)) 4000 ⟨bootT w.params, 11, (boot_heap w.params).life, Array.mk [], boot_drawn, boot_toks, os⟩ (topStub hd.prog)).map (fun s => ((staticsOk (importedModules hd.prog.main.body) (boot_heap w.params) s.abs.heap && namesBound hd.prog s.abs.heap && gensDone s.abs && laidKept (boot_heap w.params) s.abs.heap), (openSeen hd.view_39 hd.loose (importedModules hd.prog.main.body) hd.xt true s.abs).1, (openSeen hd.view_39 hd.loose (importedModules hd.prog.main.body) hd.xt true s.abs).2.1, (openSeen hd.view_39 hd.loose (importedModules hd.prog.main.body) hd.xt true s.abs).2.2.1, (openSeen hd.view_39 hd.loose (importedModules hd.prog.main.body) hd.xt true s.abs).2.2.2.1, (openSeen hd.view_39 hd.loose (importedModules hd.prog.main.body) hd.xt true s.abs).2.2.2.2.1))) = fun _ => some (true, expectedOf hd.view_39, bltViewBooted, true, true, pinGoodD (drecsOf hd.view_39)) := by
  intro w
  rw [PySem.W.Fast.te4187177175401517315, PySem.W.Fast.te6613529449190102663, PySem.W.Fast.te10156331382660048174, PySem.W.Fast.te11892475500146522536, PySem.W.Fast.te14364793385576792824, PySem.W.Fast.te5923862056798008813]
  kernel_rfl
set_option maxRecDepth 100000 in
theorem hd.run1b : ∀ w : World, (fun os => (runG through stepOk (stepT (denote treeTable) hd.prog w) 11 (some (.ref 6)) 4000 ⟨bootT w.params, 11, (boot_heap w.params).life, Array.mk [], boot_drawn, boot_toks, os⟩ (topStub hd.prog)).map (fun s => ((openSeen hd.view_39 hd.loose (importedModules hd.prog.main.body) hd.xt true s.abs).2.2.2.2.2.1, (openSeen hd.view_39 hd.loose (importedModules hd.prog.main.body) hd.xt true s.abs).2.2.2.2.2.2.1, (openSeen hd.view_39 hd.loose (importedModules hd.prog.main.body) hd.xt true s.abs).2.2.2.2.2.2.2.1, (openSeen hd.view_39 hd.loose (importedModules hd.prog.main.body) hd.xt true s.abs).2.2.2.2.2.2.2.2))) = fun _ => some (plainGoodE hd.view_39 (looseW hd.view_39 hd.loose), plainGoodD hd.view_39 hd.loose, wideGood hd.view_39, clsGoodW hd.view_39 hd.loose) := by
  intro w
  rw [PySem.W.Fast.te4187177175401517315, PySem.W.Fast.te6613529449190102663, PySem.W.Fast.te10156331382660048174, PySem.W.Fast.te11892475500146522536, PySem.W.Fast.te14364793385576792824, PySem.W.Fast.te5923862056798008813]
  kernel_rfl
theorem hd.run1 : ∀ w : World, (fun os => (runG through stepOk (stepT (denote treeTable) hd.prog w) 11 (some (.ref 6)) 4000 ⟨bootT w.params, 11, (boot_heap w.params).life, Array.mk [], boot_drawn, boot_toks, os⟩ (topStub hd.prog)).map (fun s => ((staticsOk (importedModules hd.prog.main.body) (boot_heap w.params) s.abs.heap && namesBound hd.prog s.abs.heap && gensDone s.abs && laidKept (boot_heap w.params) s.abs.heap),
    openSeen hd.view_39 hd.loose (importedModules hd.prog.main.body) hd.xt true s.abs))) = fun _ => some (true, openGood hd.view_39 hd.loose) := by
  intro w
  funext os
  obtain ⟨s', r, l⟩ := Option.map_eq_some_iff.mp (congrFun (hd.run1a w) os)
  obtain ⟨s'', r2, k⟩ := Option.map_eq_some_iff.mp (congrFun (hd.run1b w) os)
  obtain rfl : s' = s'' := Option.some.inj (r.symm.trans r2)
  have r3 : (runG through stepOk (stepT (denote treeTable) hd.prog w) 11 (some (.ref 6)) 4000 ⟨bootT w.params, 11, (boot_heap w.params).life, Array.mk [], boot_drawn, boot_toks, os⟩ (topStub hd.prog)) = some s' := r
  rw [r3]
  obtain ⟨l0, l⟩ := Prod.mk.inj l
  obtain ⟨a0, l⟩ := Prod.mk.inj l
  obtain ⟨a1, l⟩ := Prod.mk.inj l
  obtain ⟨a2, l⟩ := Prod.mk.inj l
  obtain ⟨a3, a4⟩ := Prod.mk.inj l
  obtain ⟨b0, k⟩ := Prod.mk.inj k
  obtain ⟨b1, k⟩ := Prod.mk.inj k
  obtain ⟨b2, b3⟩ := Prod.mk.inj k
  exact congrArg some (Prod.ext l0 (Prod.ext a0 (Prod.ext a1 (Prod.ext a2 (Prod.ext a3 (Prod.ext a4 (Prod.ext b0 (Prod.ext b1 (Prod.ext b2 b3)))))))))
set_option maxRecDepth 100000 in
theorem hd.run2 : ∀ w : World, (fun os => (runG through stepOk (stepT (denote treeTable) hd.prog w) 11 (some (.ref 6)) 4000 ⟨bootT w.params, 11, (boot_heap w.params).life, Array.mk [], boot_drawn, boot_toks, os⟩ (topStub hd.prog)).map (fun s => PySem.W.X.obsZ hd.addrs s.abs)) = fun _ => some (PySem.W.X.valZ hd.heap_39 555 982 w) := by
  intro w
  rw [PySem.W.Fast.te6613529449190102663, PySem.W.Fast.te10156331382660048174, PySem.W.Fast.te11892475500146522536, PySem.W.Fast.te14364793385576792824]
  kernel_rfl
theorem hd.open_ : ∀ w : World, (fencedOpening treeTable hd.prog w 7876).map (fun s => (s.heap, s.gens, s.drawn, s.toks)) = some (boot_heap w.params, Array.mk [], boot_drawn, boot_toks) :=
  boot_open (by kernel_rfl) (by kernel_rfl) (fun s => by kernel_rfl)
theorem hd.left : LeftO hd.prog hd.view_39 hd.loose hd.xt (PySem.W.X.obsZ hd.addrs) (PySem.W.X.valZ hd.heap_39 555 982) 7876 :=
  left_tree hd.open_ (fun P => by kernel_rfl) (fun P => by kernel_rfl) (by kernel_rfl) hd.run1 hd.run2
theorem hd.said : OpenLaw.wellSaid PySem.Challenge.rw_pc0145_01 = true := by
  rw [PySem.W.Fast.te9446332074065402090]
  kernel_rfl
-- Base
noncomputable abbrev LL : List Str := looseW Mine.hd.view_39 [Str.ofString "LedgerError", Str.ofString "shape_of"]
theorem enterH {w : World} {A : Around} {s : Shared} {K : Frag} {p : Program} {loose : List Str} {mean : ExcName → Option Value} {mg mb : Str → Option Value}
    {name qual : Str} {params : Arguments} {body : List Stmt} {scope : Scope} {dV kV doc pm cdv ct oc : Value} {an od : Option Addr} {osl : Array (Option Value)} {f : Addr} {args : List Value} {kw : List (Str × Value)} {binds : List (Str × Value)}
    {Q : Value → Shared → Prop} {E : Value → Shared → Prop}
    (X : K.In s.heap) (T : Top p loose mean mg mb s.heap)
    (ho : K.lookup f = some ⟨oc, od, .func (fnOf name qual params body scope dV kV doc pm an cdv ct), osl⟩) (hcd : codeIn K cdv qual = true) (hroom : A.depth < recursionLimit)
    (hbind : BindsTo s (fnOf name qual params body scope dV kV doc pm an cdv ct) ⟨args, kw⟩ binds) (hloc : ∀ y ∈ binds, scope.names.lookup y.1 = some .local)
    (hcell : ∀ x ∈ scope.names, x.2 ≠ .cell)
    (hco : scope.isCoroutine = false) (hgen : scope.isGenerator = false) (hk : scope.kind = .function)
    (h : ∀ h₁, Fr s.heap s.heap.objs.size h₁ (fun y => binds.reverse.lookup y) → News s.heap s.heap.objs.size h₁ [] →
      wpAny (model Challenge.rw_pc0145_01.row.prog w) (A.deeper (envOf qual scope s.heap.objs.size f cdv)) (execs body (envOf qual scope s.heap.objs.size f cdv))
        (fun fl s' => Q (match fl with | .ret v => v | _ => .none) s') (fun _ _ => False)
        { s with heap := h₁, toks := s.toks + binds.length }) :
    wpAny (model Challenge.rw_pc0145_01.row.prog w) A (call (.ref f) args kw) Q E s := by
  refine wpAny_call ?_
  refine codeAny_call_def (fd := fnOf name qual params body scope dV kV doc pm an cdv ct) (body := body) (binds := binds) hroom (X _ _ ho) rfl T.nolimit (codeRec_of X hcd) rfl hbind hcell hloc (fun h₁ hns hk₁ => ?_) hco hgen hk
  exact wpAny_mono (h h₁ ⟨hns, hk₁, Nat.le_refl _⟩ News.nil) (fun fl s' q => q) (fun e s' q => q.elim)
theorem instAt_keep {h h' : Heap} {x C : Addr} {ox : Obj} {L : Addr} {m : Str → Option Value} (F : Fr h L h' m) (I : InstAt h x ox C (some (dictOf es n))) : InstAt h' x ox C (some (dictOf es n)) := by
  obtain ⟨a, b, c, d⟩ := I
  refine ⟨F.keep _ _ a, b, c, ?_⟩
  cases hx : ox.dict with
  | none => rw [hx] at d; exact d
  | some dx => rw [hx] at d; exact F.keep _ _ d
local macro_rules | `(tactic| k_inst) => `(tactic| exact instAt_keep (by assumption) (by assumption))
local macro_rules | `(tactic| cell_enter) => `(tactic| (refine' enterH ?k1 ?k2 ?k6 ?k7 ?k8 ?k9 ?kB ?c5 ?c2 ?c3 ?c4 ?_; (case k1 => assumption); (case k2 => assumption); (case k6 => k_is); (case k7 => k_is); (case k8 => first | assumption | omega | ktr_room); (case k9 => exact BindsTo.of_eq rfl); (case c5 => decide); (case kB => exact locs rfl); (case c2 => exact rfl); (case c3 => exact rfl); (case c4 => exact rfl); k_whole; intro h₁ F N; (try dsimp only)))
def Ext (h h' : Heap) : Prop := ∀ b o, h.get? b = some o → h'.get? b = some o
theorem fr_ext {h₀ h h' : Heap} {L : Addr} {m : Str → Option Value} (F : Fr h₀ L h m) (x : Ext h h') : Fr h₀ L h' m := by
  obtain ⟨⟨o, es, ep, ho, r⟩, k, a⟩ := F
  exact ⟨⟨o, es, ep, x _ _ ho, r⟩, fun b o e => x _ _ (k b o e), a⟩
theorem news_ext {h₀ h h' : Heap} {L : Addr} {l : List (Addr × Obj)} (N : News h₀ L h l) (x : Ext h h') : News h₀ L h' l := fun p hp => ⟨x _ _ (N p hp).1, (N p hp).2⟩
theorem top_fr {p : Program} {loose : List Str} {mean : ExcName → Option Value} {mg mb : Str → Option Value} {h₀ h : Heap} {L : Addr} {m : Str → Option Value} (T : Top p loose mean mg mb h₀) (F : Fr h₀ L h m) : Top p loose mean mg mb h := T.keeps F.keep
theorem q_end {Q : Value → Shared → Prop} {v v' : Value} {s' : Shared} (h : Q v s') (e : v' = v) : Q v' s' := e ▸ h
local macro_rules | `(tactic| walk_at "hbehind") => `(tactic| (intro h' tk' tt hx; (try dsimp only at hx); (have F' := fr_ext (by assumption) hx); (have N' := news_ext (by assumption) hx); (try k_sweep); (try dsimp only)))
local macro_rules | `(tactic| walk_at "htop") => `(tactic| first | assumption | exact top_fr (by assumption) (by assumption))
theorem and_gor {p q g : Prop} (h : q → g) : p ∧ q → g := fun x => h x.2
theorem pk_l {a b x : Nat} {p : Prop} (h : x < b ∧ p) (k : x < b ∧ p → a < b) : a ≠ b := Nat.ne_of_lt (k h)
theorem pk_r {a b x : Nat} {p : Prop} (h : x < a ∧ p) (k : x < a ∧ p → b < a) : a ≠ b := Nat.ne_of_gt (k h)
theorem pk_a {a b x c d : Nat} {p : Prop} (h : (x ≠ b ∧ x ≠ c ∧ x ≠ d) ∧ p) (k : (x ≠ b ∧ x ≠ c ∧ x ≠ d) ∧ p → a ≠ b) : a ≠ b := k h
theorem pk_b {a b x c d : Nat} {p : Prop} (h : (x ≠ c ∧ x ≠ b ∧ x ≠ d) ∧ p) (k : (x ≠ c ∧ x ≠ b ∧ x ≠ d) ∧ p → a ≠ b) : a ≠ b := k h
theorem pk_c {a b x c d : Nat} {p : Prop} (h : (x ≠ c ∧ x ≠ d ∧ x ≠ b) ∧ p) (k : (x ≠ c ∧ x ≠ d ∧ x ≠ b) ∧ p → a ≠ b) : a ≠ b := k h
local macro_rules | `(tactic| walk_at "lt_in") => `(tactic| first | exact fun h => h.1 | exact fun h => h | (refine and_gor ?_; walk_at "lt_in"))
local macro_rules | `(tactic| walk_at "ne_in") => `(tactic| first | exact fun h => h.1.1 | exact fun h => h.1.2.1 | exact fun h => h.1.2.2 | exact fun h => h.1 | exact fun h => h.2.1 | exact fun h => h.2.2 | (refine and_gor ?_; walk_at "ne_in"))
local macro_rules | `(tactic| walk_at "ne_scan") => `(tactic| ((rename (_ ∧ _) => h9); first | (refine pk_l h9 ?_; walk_at "lt_in") | (refine pk_r h9 ?_; walk_at "lt_in") | (refine pk_a h9 ?_; walk_at "ne_in") | (refine pk_b h9 ?_; walk_at "ne_in") | (refine pk_c h9 ?_; walk_at "ne_in") | (refine Ne.symm (pk_a h9 ?_); walk_at "ne_in") | (refine Ne.symm (pk_b h9 ?_); walk_at "ne_in") | (refine Ne.symm (pk_c h9 ?_); walk_at "ne_in") | (clear h9; walk_at "ne_scan")))
local macro_rules | `(tactic| walk_at "ne_pick") => `(tactic| first | assumption | exact Nat.ne_of_lt (by assumption) | exact Nat.ne_of_gt (by assumption) | exact Ne.symm (by assumption) | walk_at "ne_scan")
local macro_rules | `(tactic| k_ne) => `(tactic| walk_at "ne_pick")
theorem room0 {d k L : Nat} (h : d + k < L) : d < L := Nat.lt_of_le_of_lt (Nat.le_add_right ..) h
theorem room1 {d a k L : Nat} (h : d + k < L) (l : Nat.ble a k = true) : d + a < L := Nat.lt_of_le_of_lt (Nat.add_le_add_left (Nat.le_of_ble_eq_true l) _) h
theorem room2 {d a b k L : Nat} (h : d + k < L) (l : Nat.ble (a + b) k = true) : d + a + b < L := by rw [Nat.add_assoc]; exact room1 h l
theorem room3 {d a b c k L : Nat} (h : d + k < L) (l : Nat.ble (a + b + c) k = true) : d + a + b + c < L := by rw [Nat.add_assoc, Nat.add_assoc, ← Nat.add_assoc a]; exact room1 h l
theorem room4 {d a b c e k L : Nat} (h : d + k < L) (l : Nat.ble (a + b + c + e) k = true) : d + a + b + c + e < L := by rw [Nat.add_assoc, Nat.add_assoc, Nat.add_assoc, ← Nat.add_assoc b, ← Nat.add_assoc a, ← Nat.add_assoc a]; exact room1 h l
local macro_rules | `(tactic| walk_at "room") => `(tactic| first | exact room0 (by assumption) | exact room1 (by assumption) rfl | exact room2 (by assumption) rfl | exact room3 (by assumption) rfl | exact room4 (by assumption) rfl)
local macro_rules | `(tactic| walk_at "hroom") => `(tactic| first | assumption | walk_at "room" | ((try simp only [depth_under_make, depth_under_kw, depth_in1, depth_deeper, depth_caller, units_in1, units_deeper, Around.mark_units, units_caller]); walk_at "room") | omega | ((try simp only [depth_under_make, depth_under_kw, depth_in1, depth_deeper, depth_caller, units_in1, units_deeper, Around.mark_units, units_caller] at *); (try dsimp only at *); omega))
local macro_rules | `(tactic| walk_at "hnum") => `(tactic| first | assumption | exact instAt_keep (by assumption) (by assumption))
theorem inst_ext {h h' : Heap} {x C : Addr} {ox : Obj} {es : List DictEntry} {n : Nat} (F : Ext h h') (I : InstAt h x ox C (some (dictOf es n))) : InstAt h' x ox C (some (dictOf es n)) := by
  obtain ⟨a, b, c, d⟩ := I
  refine ⟨F _ _ a, b, c, ?_⟩
  cases hx : ox.dict with
  | none => rw [hx] at d; exact d
  | some dx => rw [hx] at d; exact F _ _ d
-- Shp
structure HK where
  h : Nat → Int
  k : Nat → Nat
  v : Nat → Nat
def numEs (q : HK) (vp : Value) : List DictEntry := [
  ⟨q.h 1, .str (Str.ofString "category") (q.k 1), .str (Str.ofString "numeric") (q.v 1)⟩,
  ⟨q.h 2, .str (Str.ofString "size") (q.k 2), .int 2 (q.v 2)⟩,
  ⟨q.h 3, .str (Str.ofString "picture") (q.k 3), vp⟩,
  ⟨q.h 4, .str (Str.ofString "usage") (q.k 4), .str (Str.ofString "display") (q.v 4)⟩,
  ⟨q.h 5, .str (Str.ofString "sign") (q.k 5), .str (Str.ofString "trailing") (q.v 5)⟩,
  ⟨q.h 6, .str (Str.ofString "is_separate") (q.k 6), .bool false⟩,
  ⟨q.h 7, .str (Str.ofString "is_justified") (q.k 7), .bool false⟩,
  ⟨q.h 8, .str (Str.ofString "is_blank_zero") (q.k 8), .bool false⟩,
  ⟨q.h 9, .str (Str.ofString "digits") (q.k 9), .int 2 (q.v 9)⟩,
  ⟨q.h 10, .str (Str.ofString "scale") (q.k 10), .int 0 (q.v 10)⟩,
  ⟨q.h 11, .str (Str.ofString "is_signed") (q.k 11), .bool true⟩]
def txtEs (q : HK) (vp : Value) : List DictEntry := [
  ⟨q.h 1, .str (Str.ofString "category") (q.k 1), .str (Str.ofString "alphanumeric") (q.v 1)⟩,
  ⟨q.h 2, .str (Str.ofString "size") (q.k 2), .int 1 (q.v 2)⟩,
  ⟨q.h 3, .str (Str.ofString "picture") (q.k 3), vp⟩,
  ⟨q.h 4, .str (Str.ofString "usage") (q.k 4), .str (Str.ofString "display") (q.v 4)⟩,
  ⟨q.h 5, .str (Str.ofString "sign") (q.k 5), .str (Str.ofString "trailing") (q.v 5)⟩,
  ⟨q.h 6, .str (Str.ofString "is_separate") (q.k 6), .bool false⟩,
  ⟨q.h 7, .str (Str.ofString "is_justified") (q.k 7), .bool false⟩,
  ⟨q.h 8, .str (Str.ofString "is_blank_zero") (q.k 8), .bool false⟩,
  ⟨q.h 9, .str (Str.ofString "digits") (q.k 9), .int 0 (q.v 9)⟩,
  ⟨q.h 10, .str (Str.ofString "scale") (q.k 10), .int 0 (q.v 10)⟩,
  ⟨q.h 11, .str (Str.ofString "is_signed") (q.k 11), .bool false⟩]
abbrev NumAt (h : Heap) (sh d : Addr) (q : HK) (vp : Value) (n : Nat) : Prop := InstAt h sh ⟨.ref 111, some d, .plain, #[]⟩ 111 (some (dictOf (numEs q vp) n))
abbrev TxtAt (h : Heap) (sh d : Addr) (q : HK) (vp : Value) (n : Nat) : Prop := InstAt h sh ⟨.ref 111, some d, .plain, #[]⟩ 111 (some (dictOf (txtEs q vp) n))
def IsNum (h : Heap) (sh : Addr) : Prop := ∃ d q vp n, NumAt h sh d q vp n
def IsTxt (h : Heap) (sh : Addr) : Prop := ∃ d q vp n, TxtAt h sh d q vp n
-- Loops
section
variable {prog : Program} {w : World} {A : Around} {E : Value → Shared → Prop} {s : Shared} {env : Env} {h₀ : Heap} {x : Str} {body : List Stmt} {Q : Flow → Shared → Prop}
/-- behind a turn of a loop that keeps nothing but the names -/
def VPost (h₀ : Heap) (L : Addr) (x : Str) (stored : List Str) (m₀ : Str → Option Value) (own : List (Addr × Obj)) (J : Prop) (s : Shared) (Q : Flow → Shared → Prop) (f : Flow) (s₂ : Shared) : Prop :=
  match f with
  | .ret v => Q (.ret v) s₂
  | .brk => Q .next s₂
  | _ => ∃ h' tk m' news', s₂ = { s with heap := h', toks := tk } ∧ Fr h₀ L h' m' ∧ News h₀ L h' news' ∧ (∀ p ∈ own, p ∈ news') ∧ (∀ z, z ≠ x → stored.contains z = false → m' z = m₀ z) ∧ J
theorem vpost_next {L : Addr} {stored : List Str} {own news' : List (Addr × Obj)} {m₀ m' : Str → Option Value} {J : Prop} {h' : Heap} {tk : Nat} (F : Fr h₀ L h' m') (N : News h₀ L h' news') (hn : ∀ p ∈ own, p ∈ news') (hm : ∀ z, z ≠ x → stored.contains z = false → m' z = m₀ z) (hj : J) :
    VPost h₀ L x stored m₀ own J s Q .next { s with heap := h', toks := tk } := ⟨h', tk, m', news', rfl, F, N, hn, hm, hj⟩
theorem vals_fn {stored : List Str} {m₀ m₁ : Str → Option Value} (hm : ∀ z, z ≠ x → stored.contains z = false → m₁ z = m₀ z) (c : Option Value) :
    (fun y => if y = x then c else m₁ y) = fun y => if y = x then c else if stored.contains y then m₁ y else m₀ y := by
  funext y
  by_cases hy : y = x
  · simp [hy]
  · simp only [hy, if_false]
    cases hc : stored.contains y with
    | true => simp
    | false => simp [hm y hy hc]
theorem loop_vals {I : Addr} {fp wr : List Addr} {n : Nat} {P : Nat → Value → Prop} {St : Nat → Heap → Prop} {m₀ : Str → Option Value} (stored : List Str) (J : Nat → Prop)
    (W : Walks prog w A I fp wr n P St) (hLf : env.locals ∉ fp) (hwr : ∀ b ∈ wr, h₀.get? b = none) (hst : St 0 s.heap) (F : Fr h₀ env.locals s.heap m₀) (hj : J 0)
    (turn : ∀ i v h tk (u : Str → Option Value) own, i < n → P i v → J i → Fr h₀ env.locals h (fun y => if y = x then some v else if stored.contains y then u y else m₀ y) → News h₀ env.locals h own →
      wpAny (model prog w) A (execs body env) (VPost h₀ env.locals x stored m₀ own (J (i + 1)) { s with heap := h, toks := tk } Q) E { s with heap := h, toks := tk })
    (done : ∀ (u : Str → Option Value) h tk, J n → Fr h₀ env.locals h (fun y => if y = x then u y else if stored.contains y then u y else m₀ y) → News h₀ env.locals h [] → Q .next { s with heap := h, toks := tk }) :
    LoopAtV prog w A h₀ env x body Q E (.ref I) s := by
  refine loop_invN (news := []) (fun i m nx => nx = [] ∧ (∀ z, z ≠ x → stored.contains z = false → m z = m₀ z) ∧ J i) W hLf hwr (fun _ hp => nomatch hp) (fun _ hp => nomatch hp) hst F News.nil ⟨rfl, fun _ _ _ => rfl, hj⟩ ?_ ?_
  · rintro i v m₁ news₁ h tk own hi hP _ _ ⟨rfl, hm, hJ⟩ F₁ N₁
    rw [vals_fn hm] at F₁
    have fin : ∀ s₂, (∃ h' tk' m' news', s₂ = { s with heap := h', toks := tk' } ∧ Fr h₀ env.locals h' m' ∧ News h₀ env.locals h' news' ∧ (∀ p ∈ own, p ∈ news') ∧ (∀ z, z ≠ x → stored.contains z = false → m' z = m₀ z) ∧ J (i + 1)) →
        InvEndN h₀ env.locals (fun m nx => nx = [] ∧ (∀ z, z ≠ x → stored.contains z = false → m z = m₀ z) ∧ J (i + 1)) own [] { s with heap := h, toks := tk } s₂ := by
      rintro s₂ ⟨h', tk', m', news', rfl, F', N', hn, hm', hJ'⟩
      exact ⟨h', tk', m', news', [], rfl, F', N', fun _ hp => (nomatch hp), hn, rfl, rfl, hm', hJ'⟩
    refine wpAny_mono (turn i v h tk m₁ own hi hP hJ F₁ (by simpa using N₁)) (fun f s₂ p => ?_) fun _ _ x => x
    cases f with
    | ret v => exact p
    | brk => exact p
    | next => exact fin s₂ p
    | cont => exact fin s₂ p
  · rintro m₁ news₁ h tk ⟨rfl, hm, hJ⟩ F₁ N₁
    have e2 : m₁ = fun y => if y = x then m₁ y else if stored.contains y then m₁ y else m₀ y := by
      funext y
      by_cases hy : y = x
      · simp [hy]
      · simp only [hy, if_false]
        cases hc : stored.contains y with
        | true => simp
        | false => simp [hm y hy hc]
    rw [e2] at F₁
    exact done m₁ h tk hJ F₁ News.nil
theorem iter_vals {l : Addr} {vs : List Value} {m₀ : Str → Option Value} (stored : List Str) (J : Nat → Prop)
    (hh : A.handled = none) (hl : h₀.IsList l vs.toArray) (F : Fr h₀ env.locals s.heap m₀) (hj : J 0)
    (turn : ∀ i v h tk (u : Str → Option Value) own, vs[i]? = some v → J i → Fr h₀ env.locals h (fun y => if y = x then some v else if stored.contains y then u y else m₀ y) → News h₀ env.locals h own →
      wpAny (model prog w) A (execs body env) (VPost h₀ env.locals x stored m₀ own (J (i + 1)) { s with heap := h, toks := tk } Q) E { s with heap := h, toks := tk })
    (done : ∀ (u : Str → Option Value) h tk, J vs.length → Fr h₀ env.locals h (fun y => if y = x then u y else if stored.contains y then u y else m₀ y) → News h₀ env.locals h [] → Q .next { s with heap := h, toks := tk }) :
    wpAny (model prog w) A (pyIter (.ref l)) (fun it s₂ => LoopAtV prog w A h₀ env x body Q E it s₂) E s := by
  have hls : s.heap.IsList l vs.toArray := hl.at fun o e => F.keep l o e
  obtain ⟨ol, hol, _⟩ := id hl
  have hlt : l < h₀.objs.size := Heap.lt_size hol
  have hne : l ≠ s.heap.objs.size := Nat.ne_of_lt (Nat.lt_trans (Nat.lt_of_lt_of_le hlt F.above) F.ns.lt)
  refine wpAny_pyIter_list hls ?_
  have W := Walks.list (prog := prog) (w := w) hh s.heap.objs.size l hne vs.toArray
  refine loop_vals stored J W ?_ ?_ ⟨⟨_, Heap.get?_push_size _ rfl, rfl, rfl⟩, hls.at fun o e => Heap.get?_push_of_some _ e⟩ (F.push _) hj ?_ ?_
  · intro hm
    rcases List.mem_cons.mp hm with e | hm
    · exact absurd F.ns.lt (e ▸ Nat.lt_irrefl _)
    · exact absurd (Nat.lt_of_lt_of_le hlt F.above) ((List.mem_singleton.mp hm) ▸ Nat.lt_irrefl _)
  · intro b hb
    rw [List.mem_singleton.mp hb]
    exact next_is_new F
  · intro i v h tk u own _ hP hJ F₁ N₁
    exact turn i v h tk u own (by simpa using hP) hJ F₁ N₁
  · intro u h tk hJ F₁ N₁
    exact done u h tk (by simpa using hJ) F₁ N₁
/-- for i in range(1, n) and its like -/
theorem iter_rng {r : Addr} {a₀ b₀ : Int} {t₀ u₀ v₀ : Tok} {n : Nat} {m₀ : Str → Option Value} (stored : List Str) (J : Nat → Prop)
    (hh : A.handled = none) (hr : IsRange s.heap r a₀ b₀ 1 t₀ u₀ v₀) (hsmall : Builtin.Range.small a₀ b₀ 1 = true) (hn : Builtin.Range.rangeSize a₀ b₀ 1 = (n : Int)) (F : Fr h₀ env.locals s.heap m₀) (hj : J 0)
    (turn : ∀ i t h tk (u : Str → Option Value) own, i < n → J i → Fr h₀ env.locals h (fun y => if y = x then some (.int (a₀ + (i : Int)) t) else if stored.contains y then u y else m₀ y) → News h₀ env.locals h own →
      wpAny (model prog w) A (execs body env) (VPost h₀ env.locals x stored m₀ own (J (i + 1)) { s with heap := h, toks := tk } Q) E { s with heap := h, toks := tk })
    (done : ∀ (u : Str → Option Value) h tk, J n → Fr h₀ env.locals h (fun y => if y = x then u y else if stored.contains y then u y else m₀ y) → News h₀ env.locals h [] → Q .next { s with heap := h, toks := tk }) :
    wpAny (model prog w) A (pyIter (.ref r)) (fun it s₂ => LoopAtV prog w A h₀ env x body Q E it s₂) E s := by
  refine wpAny_pyIter_range hr hsmall ?_
  have W : Walks prog w A s.heap.objs.size [s.heap.objs.size] [s.heap.objs.size] n (fun i v => i < n ∧ ∃ t, v = .int (a₀ + i * 1) t)
      (fun i h => IsRangeIter h s.heap.objs.size (a₀ + (i : Nat) * 1) ((n : Int) - (i : Nat)) 1) := (Walks.range hh _ a₀ 1 n).bound
  refine loop_vals stored J W ?_ ?_ (by show IsRangeIter _ _ _ _ _; rw [hn]; simpa using Heap.get?_push_size _ rfl) (F.push _) hj ?_ ?_
  · intro hm
    exact absurd F.ns.lt ((List.mem_singleton.mp hm) ▸ Nat.lt_irrefl _)
  · intro b hb
    rw [List.mem_singleton.mp hb]
    exact next_is_new F
  · rintro i v h tk u own hi ⟨_, t, rfl⟩ hJ F₁ N₁
    rw [Int.mul_one] at F₁
    exact turn i t h tk u own hi hJ F₁ N₁
  · intro u h tk hJ F₁ N₁
    exact done u h tk hJ F₁ N₁
end
section
variable {prog : Program} {w : World} {A : Around} {E : Value → Shared → Prop} {s : Shared}
theorem slot_bytes_lt : Slot "bytes" (cmpInfo .Lt).2.1 "bytes.__lt__" :=
  .of (owner := "bytes") (n := "__lt__") (by rw [typeLookup_type, builtinLookup_eq_fast]; kernel_rfl) (by decide +kernel) (by decide +kernel) (by decide +kernel)
    (by first | exact .inl (by decide +kernel) | exact .inr (by decide +kernel)) (by rw [isSubtype_type]; kernel_rfl)
theorem entry_bytes_lt : entryFor table "bytes.__lt__" = some Builtin.«bytes.__lt__» := entryFor_of_tree (by kernel_rfl)
theorem args_bytes_lt (a b : Value) : argsOk "bytes.__lt__" ⟨[a, b], []⟩ := by
  unfold argsOk; rw [signature?_of (id := "bytes.__lt__") (n := ['_', '_', 't', 'l', '_', '_']) (o := ['s', 'e', 't', 'y', 'b']) (by kernel_rfl) FB.owner_bytes]; kernel_rfl
theorem gives_bytes_lt1 (x y : UInt8) (t u : Tok) : Gives (Builtin.«bytes.__lt__» ⟨[.bytes #[x] t, .bytes #[y] u], []⟩) (.val (.bool (decide (x.toNat < y.toNat)))) := by
  refine .of_wp fun M A E s Q hq => ?_
  show wpAny M A (isInstance (.bytes #[y] u) (.type "bytes") >>= fun r => _) _ E s
  refine wpAny_bind (wpAny_isInstance (typeIs_bytes s _ u) F.sub_bytes_bytes ?_)
  refine wpAny_pure ⟨_, rfl, ?_⟩
  have e : Builtin.Bytes.holds "__lt__" (Builtin.Bytes.order [x] [y]) = decide (x.toNat < y.toNat) := by
    show (Builtin.Bytes.order [x] [y] == .lt) = _
    simp only [Builtin.Bytes.order]
    by_cases h1 : x < y
    · rw [if_pos h1]; have h1' : x.toNat < y.toNat := h1; simp [h1']
    · rw [if_neg h1]
      have h1' : ¬ x.toNat < y.toNat := h1
      by_cases h2 : x > y <;> simp [h2, h1']
  rw [← e] at hq
  exact hq
theorem lt_bytes1 {x y : UInt8} {t u : Tok} {Q : Value → Shared → Prop} (h : Q (.bool (decide (x.toNat < y.toNat))) s) : wpAny (model prog w) A (compareOp .Lt (.bytes #[x] t) (.bytes #[y] u)) Q E s :=
  compareOp_gives (op := .Lt) (typeIs_bytes s _ t) (typeIs_bytes s _ u) slot_bytes_lt entry_bytes_lt (args_bytes_lt _ _) (gives_bytes_lt1 x y t u) (fun e => nomatch e) h
end
local macro_rules | `(tactic| walk_at "compareOp Lt bytes bytes") => `(tactic| refine lt_bytes1 ?_)
-- Acc
section
variable {prog : Program} {w : World} {A : Around} {E : Value → Shared → Prop} {s : Shared} {env : Env} {h₀ : Heap} {x y : Str} {body : List Stmt} {Q : Flow → Shared → Prop}
/-- behind a turn of a loop that binds one name to a list of its own -/
def APost (h₀ : Heap) (L : Addr) (x y : Str) (m₀ : Str → Option Value) (own : List (Addr × Obj)) (P : Array Value → Prop) (s : Shared) (Q : Flow → Shared → Prop) (f : Flow) (s₂ : Shared) : Prop :=
  match f with
  | .ret v => Q (.ret v) s₂
  | .brk => Q .next s₂
  | _ => ∃ h' tk m' news' D xs k, s₂ = { s with heap := h', toks := tk } ∧ Fr h₀ L h' m' ∧ News h₀ L h' news' ∧ (∀ p ∈ own, p ∈ news') ∧ (D, listOf xs k) ∈ news' ∧ m' y = some (.ref D) ∧ (∀ z, z ≠ x → z ≠ y → m' z = m₀ z) ∧ P xs
theorem apost_next {L D : Addr} {own news' : List (Addr × Obj)} {m₀ m' : Str → Option Value} {P : Array Value → Prop} {h' : Heap} {tk : Nat} {xs : Array Value} {k : Nat} (F : Fr h₀ L h' m') (N : News h₀ L h' news') (hD : (D, listOf xs k) ∈ news') (hy : m' y = some (.ref D)) (hn : ∀ p ∈ own, p ∈ news')
    (hm : ∀ z, z ≠ x → z ≠ y → m' z = m₀ z) (hp : P xs) : APost h₀ L x y m₀ own P s Q .next { s with heap := h', toks := tk } := ⟨h', tk, m', news', D, xs, k, rfl, F, N, hn, hD, hy, hm, hp⟩
theorem acc_fn {m₀ m₁ : Str → Option Value} {v : Value} (hy : m₁ y = some v) (hm : ∀ z, z ≠ x → z ≠ y → m₁ z = m₀ z) (c : Str → Option Value) :
    (fun z => if z = x then c z else m₁ z) = fun z => if z = x then c z else if z = y then some v else m₀ z := by
  funext z
  by_cases h1 : z = x
  · simp [h1]
  · simp only [h1, if_false]
    by_cases h2 : z = y
    · subst h2; simp [hy]
    · simp only [h2, if_false]; exact hm z h1 h2
theorem iter_acc {l : Addr} {vs : List Value} {m₀ : Str → Option Value} {news : List (Addr × Obj)} {D₀ : Addr} {xs₀ : Array Value} {k₀ : Nat} (P : Nat → Array Value → Prop)
    (hh : A.handled = none) (hl : h₀.IsList l vs.toArray) (F : Fr h₀ env.locals s.heap m₀) (N : News h₀ env.locals s.heap news) (hD : (D₀, listOf xs₀ k₀) ∈ news) (hy : m₀ y = some (.ref D₀)) (hyx : y ≠ x) (hp : P 0 xs₀)
    (turn : ∀ i v D xs k h tk own, vs[i]? = some v → P i xs → Fr h₀ env.locals h (fun z => if z = x then some v else if z = y then some (.ref D) else m₀ z) → News h₀ env.locals h ((D, listOf xs k) :: own) →
      wpAny (model prog w) A (execs body env) (APost h₀ env.locals x y m₀ own (P (i + 1)) { s with heap := h, toks := tk } Q) E { s with heap := h, toks := tk })
    (done : ∀ D xs k (u : Str → Option Value) h tk, P vs.length xs → Fr h₀ env.locals h (fun z => if z = x then u z else if z = y then some (.ref D) else m₀ z) → News h₀ env.locals h [(D, listOf xs k)] → Q .next { s with heap := h, toks := tk }) :
    wpAny (model prog w) A (pyIter (.ref l)) (fun it s₂ => LoopAtV prog w A h₀ env x body Q E it s₂) E s := by
  have hls : s.heap.IsList l vs.toArray := hl.at fun o e => F.keep l o e
  obtain ⟨ol, hol, _⟩ := id hl
  have hlt : l < h₀.objs.size := Heap.lt_size hol
  have hne : l ≠ s.heap.objs.size := Nat.ne_of_lt (Nat.lt_trans (Nat.lt_of_lt_of_le hlt F.above) F.ns.lt)
  refine wpAny_pyIter_list hls ?_
  have W := Walks.list (prog := prog) (w := w) hh s.heap.objs.size l hne vs.toArray
  let J : Nat → (Str → Option Value) → List (Addr × Obj) → Prop := fun i m nx => ∃ D xs k, nx = [(D, listOf xs k)] ∧ m y = some (.ref D) ∧ (∀ z, z ≠ x → z ≠ y → m z = m₀ z) ∧ P i xs
  have hnew := next_is_new F
  refine ⟨s.heap.objs.size, [s.heap.objs.size, l], [s.heap.objs.size], vs.toArray.size, _, _, m₀, [(D₀, listOf xs₀ k₀)], J, rfl, W, ?_, ?_, ?_, ⟨⟨_, Heap.get?_push_size _ rfl, rfl, rfl⟩, hls.at fun o e => Heap.get?_push_of_some _ e⟩, F.push _,
    (fun p hp => by rw [List.mem_singleton.mp hp]; exact ⟨Heap.get?_push_of_some _ (N _ hD).1, (N _ hD).2⟩), ⟨D₀, xs₀, k₀, rfl, hy, fun _ _ _ => rfl, hp⟩, ?_, ?_⟩
  · intro hm
    rcases List.mem_cons.mp hm with e | hm
    · exact absurd F.ns.lt (e ▸ Nat.lt_irrefl _)
    · exact absurd (Nat.lt_of_lt_of_le hlt F.above) ((List.mem_singleton.mp hm) ▸ Nat.lt_irrefl _)
  · intro b hb
    rw [List.mem_singleton.mp hb]
    exact hnew
  · intro p hp hI
    rw [List.mem_singleton.mp hp] at hI
    exact absurd (Heap.lt_size (N _ hD).1) ((List.mem_singleton.mp hI) ▸ Nat.lt_irrefl _)
  · rintro i v m₁ news₁ s₁ own ⟨hh', tk', rfl⟩ hin hP ⟨D, xs, k, rfl, hy1, hm1, hp1⟩ hoff hown hget hall hst F₁ N₁
    have hst' : Heap.IsListIter hh' s.heap.objs.size l (i + 1) := hst.1
    obtain ⟨oI, hoI, hcI, _⟩ := hst'
    have hIown := hall s.heap.objs.size (List.mem_cons_self ..) hnew oI hoI
    rw [acc_fn hy1 hm1 (fun _ => some v)] at F₁
    have N₂ : News h₀ env.locals hh' ((D, listOf xs k) :: own) := fun p hp => by
      rcases List.mem_cons.mp hp with rfl | hp
      · exact N₁ _ (List.mem_append_right _ (List.mem_singleton.mpr rfl))
      · exact N₁ _ (List.mem_append_left _ hp)
    refine wpAny_mono (turn i v D xs k hh' tk' own (by simpa using hP) hp1 F₁ N₂) (fun f s₂ p => ?_) fun _ _ e => e
    have fin : (∃ h' tk m' news' D' xs' k', s₂ = { s with heap := h', toks := tk } ∧ Fr h₀ env.locals h' m' ∧ News h₀ env.locals h' news' ∧ (∀ p ∈ own, p ∈ news') ∧ (D', listOf xs' k') ∈ news' ∧ m' y = some (.ref D') ∧ (∀ z, z ≠ x → z ≠ y → m' z = m₀ z) ∧ P (i + 1) xs') →
        LoopStepU h₀ env.locals [s.heap.objs.size] own (J (i + 1)) { s with heap := hh', toks := tk' } .next s₂ := by
      rintro ⟨h', tk, m', news', D', xs', k', rfl, F', N', hn, hD', hy', hm', hp'⟩
      refine ⟨rfl, h', tk, m', [(D', listOf xs' k')], rfl, F', fun p hp => ?_, fun p hp hI => ?_, D', xs', k', rfl, hy', hm', hp'⟩
      · rcases List.mem_append.mp hp with hp | hp
        · exact N' _ (hn p hp)
        · rw [List.mem_singleton.mp hp]; exact N' _ hD'
      · rw [List.mem_singleton.mp hp] at hI
        have e1 : D' = s.heap.objs.size := List.mem_singleton.mp hI
        have g1 := (N' _ hD').1
        have g2 := (N' _ (hn _ hIown)).1
        simp only [e1] at g1
        rw [g1] at g2
        have g3 := congrArg Obj.cls (Option.some.inj g2)
        rw [hcI] at g3
        exact absurd (Value.type.inj g3) (by decide)
    cases f with
    | ret v => exact .ret p
    | brk => exact .brk p
    | next => exact .next (fin p)
    | cont => exact .cont (fin p)
  · rintro h' tk m' news' F' N' _ ⟨D, xs, k, rfl, hy', hm', hp'⟩
    have e : m' = fun z => if z = x then m' z else if z = y then some (.ref D) else m₀ z := by
      rw [← acc_fn hy' hm' m']; funext z; simp
    rw [e] at F'
    exact done D xs k m' h' tk (by simpa using hp') F' N'
end
-- Tgt
section
variable {prog : Program} {w : World} {A : Around} {E : Value → Shared → Prop} {s : Shared} {env : Env} {h₀ : Heap} {target : Expr} {body : List Stmt} {Q : Flow → Shared → Prop}
def NotIter (o : Obj) : Prop := o.cls ≠ .type "list_iterator" ∨ ∃ v, o.data = .cell v
/-- behind a turn of a loop over any target -/
def TPost (h₀ : Heap) (L I : Addr) (own : List (Addr × Obj)) (J : (Str → Option Value) → List (Addr × Obj) → Prop) (s : Shared) (Q : Flow → Shared → Prop) (f : Flow) (s₂ : Shared) : Prop :=
  match f with
  | .ret v => Q (.ret v) s₂
  | .brk => Q .next s₂
  | _ => ∃ h' tk m' news' nx, s₂ = { s with heap := h', toks := tk } ∧ Fr h₀ L h' m' ∧ News h₀ L h' news' ∧ (∀ p ∈ own, p ∈ news') ∧ (∀ p ∈ nx, p ∈ news') ∧ (∀ p ∈ nx, NotIter p.2) ∧ J m' nx
theorem tpost_next {L I : Addr} {own news' nx : List (Addr × Obj)} {m' : Str → Option Value} {J : (Str → Option Value) → List (Addr × Obj) → Prop} {h' : Heap} {tk : Nat} (F : Fr h₀ L h' m') (N : News h₀ L h' news') (hn : ∀ p ∈ own, p ∈ news') (hx : ∀ p ∈ nx, p ∈ news')
    (hc : ∀ p ∈ nx, NotIter p.2) (hj : J m' nx) : TPost h₀ L I own J s Q .next { s with heap := h', toks := tk } := ⟨h', tk, m', news', nx, rfl, F, N, hn, hx, hc, hj⟩
def LoopAtG (prog : Program) (w : World) (A : Around) (env : Env) (target : Expr) (body : List Stmt) (Q : Flow → Shared → Prop) (E : Value → Shared → Prop) (it : Value) (s₂ : Shared) : Prop :=
  codeAny (model prog w) A (.forLoop target it body [] env) (fun r s' => match r with | .ok f => Q f s' | .error e => cameBackBy (model prog w) A env E e s') s₂
theorem For_G {iter : Expr} {pos : Pos} {m : Str → Option Value} (_F : Fr h₀ env.locals s.heap m)
    (h : wpAny (model prog w) A (eval iter env) (fun xv s₁ => wpAny (model prog w) A (pyIter xv) (fun it s₂ => LoopAtG prog w A env target body Q E it s₂) E s₁) E s)
    (hs : ∀ x, foldedSetIterable iter env x = pure x := by intro _; rfl) :
    wpAny (model prog w) A (exec (.For target iter body [] pos) env) Q E s := wpAny_For h hs
theorem iter_tgt {l : Addr} {vs : List Value} {m₀ : Str → Option Value} {news : List (Addr × Obj)} (J : Nat → (Str → Option Value) → List (Addr × Obj) → Prop)
    (hh : A.handled = none) (hl : h₀.IsList l vs.toArray) (F : Fr h₀ env.locals s.heap m₀) (N : News h₀ env.locals s.heap news) (hj : J 0 m₀ news) (hnc : ∀ p ∈ news, NotIter p.2)
    (hgo : ∀ (s' : Shared) (I : Addr) i v (Q' : Unit → Shared → Prop), v ∈ vs → s'.heap.IsListIter I l i → Q' () s' → wpAny (model prog w) A (letOwnedTupleGo target (.ref I) v) Q' E s')
    (turn : ∀ i v I oI m₁ news₁ h tk, vs[i]? = some v → J i m₁ news₁ → (∀ p ∈ news₁, p.1 ≠ I) → oI.cls = .type "list_iterator" → Fr h₀ env.locals h m₁ → News h₀ env.locals h (news₁ ++ [(I, oI)]) →
      wpAny (model prog w) A (assign target env v) (fun _ s₂ => wpAny (model prog w) A (execs body env) (TPost h₀ env.locals I [(I, oI)] (J (i + 1)) { s with heap := h, toks := tk } Q) E s₂) E { s with heap := h, toks := tk })
    (done : ∀ m₁ news₁ h tk, J vs.length m₁ news₁ → Fr h₀ env.locals h m₁ → News h₀ env.locals h news₁ → Q .next { s with heap := h, toks := tk })
    (hE : PassesOwn (model prog w) A env E := by passes_own) :
    wpAny (model prog w) A (pyIter (.ref l)) (fun it s₂ => LoopAtG prog w A env target body Q E it s₂) E s := by
  have hls : s.heap.IsList l vs.toArray := hl.at fun o e => F.keep l o e
  obtain ⟨ol, hol, _⟩ := id hl
  have hlt : l < h₀.objs.size := Heap.lt_size hol
  refine wpAny_pyIter_list hls ?_
  have hnew : h₀.get? s.heap.objs.size = none := next_is_new F
  have hIL : s.heap.objs.size ≠ env.locals := Nat.ne_of_gt F.ns.lt
  generalize hI : s.heap.objs.size = I at hnew hIL
  have hlI : l ≠ I := by
    rintro rfl
    rw [hol] at hnew; cases hnew
  have start : ∃ h tk m₁ news₁ i, ({ s with heap := s.heap.push { cls := .type "list_iterator", data := .fields #[.ref l, .int 0 0] } } : Shared) = { s with heap := h, toks := tk } ∧ h.IsListIter I l i ∧ Fr h₀ env.locals h m₁ ∧ News h₀ env.locals h news₁ ∧ (∀ p ∈ news₁, NotIter p.2) ∧ J i m₁ news₁ ∧ i ≤ vs.length ∧ vs.length + 1 = vs.length + 1 - i :=
    ⟨_, s.toks, m₀, news, 0, rfl, ⟨_, hI ▸ Heap.get?_push_size _ rfl, rfl, rfl⟩, F.push _, fun p hp => ⟨Heap.get?_push_of_some _ (N p hp).1, (N p hp).2⟩, hnc, hj, Nat.zero_le _, rfl⟩
  refine codeAny_forLoop_any (fun k s' => ∃ h tk m₁ news₁ i, s' = { s with heap := h, toks := tk } ∧ h.IsListIter I l i ∧ Fr h₀ env.locals h m₁ ∧ News h₀ env.locals h news₁ ∧ (∀ p ∈ news₁, NotIter p.2) ∧ J i m₁ news₁ ∧ i ≤ vs.length ∧ k = vs.length + 1 - i) ?_ (vs.length + 1) start
  rintro k s' ⟨h, tk, m₁, news₁, i, rfl, hit, F₁, N₁, hc₁, hJ, hi, rfl⟩
  have hlh : h.IsList l vs.toArray := hl.at fun o e => F₁.keep l o e
  have offI : ∀ p ∈ news₁, p.1 ≠ I := fun p hp e => by
    obtain ⟨oI, hoI, hcI, hdI⟩ := hit
    have g := (N₁ p hp).1
    rw [e, hoI] at g
    rcases hc₁ p hp with h | ⟨v, h⟩
    · exact h (by rw [← Option.some.inj g]; exact hcI)
    · rw [← Option.some.inj g, hdI] at h; cases h
  have next : ∀ h₁ : Heap, Heap.ExtBut I h h₁ → Fr h₀ env.locals h₁ m₁ ∧ News h₀ env.locals h₁ news₁ := fun h₁ hx =>
    ⟨⟨F₁.ns.at' fun o e => hx _ o (Ne.symm hIL) e, fun b o e => hx b o (fun q => by rw [q, hnew] at e; cases e) (F₁.keep b o e), F₁.above⟩, fun p hp => ⟨hx _ _ (offI p hp) (N₁ p hp).1, (N₁ p hp).2⟩⟩
  by_cases hlt' : i < vs.length
  · refine wpAny_pyNext_list_item hit hlh (x := vs[i]) (by simp [hlt']) fun h₁ hit₁ hs₁ => ?_
    obtain ⟨F₂, N₂⟩ := next h₁ hs₁.extBut
    obtain ⟨oI, hoI, hcI, hdI⟩ := id hit₁
    have N₃ : News h₀ env.locals h₁ (news₁ ++ [(I, oI)]) := fun p hp => by
      rcases List.mem_append.mp hp with hp | hp
      · exact N₂ p hp
      · rw [List.mem_singleton.mp hp]; exact ⟨hoI, hIL, hnew⟩
    refine wpAny_passesOwn hE (hgo _ I (i + 1) _ _ (List.getElem_mem hlt') hit₁ ?_)
    refine wpAny_passesOwn hE ?_
    refine wpAny_mono (turn i vs[i] I oI m₁ news₁ h₁ tk (by simp [hlt']) hJ offI hcI F₂ N₃) (fun _ s₂ h₂ => wpAny_passesOwn hE (wpAny_mono h₂ (fun f s₃ p => ?_) fun _ _ e => e)) fun _ _ e => e
    have fin : (∃ h' tk' m' news' nx, s₃ = ({ s with heap := h', toks := tk' } : Shared) ∧ Fr h₀ env.locals h' m' ∧ News h₀ env.locals h' news' ∧ (∀ p ∈ [(I, oI)], p ∈ news') ∧ (∀ p ∈ nx, p ∈ news') ∧ (∀ p ∈ nx, NotIter p.2) ∧ J (i + 1) m' nx) →
        ∃ m, m < vs.length + 1 - i ∧ ∃ h tk m₁ news₁ i, s₃ = { s with heap := h, toks := tk } ∧ h.IsListIter I l i ∧ Fr h₀ env.locals h m₁ ∧ News h₀ env.locals h news₁ ∧ (∀ p ∈ news₁, NotIter p.2) ∧ J i m₁ news₁ ∧ i ≤ vs.length ∧ m = vs.length + 1 - i := by
      rintro ⟨h', tk', m', news', nx, rfl, F', N', hn, hx, hc, hJ'⟩
      exact ⟨vs.length + 1 - (i + 1), by omega, h', tk', m', nx, i + 1, rfl, ⟨oI, (N' _ (hn _ (List.mem_singleton.mpr rfl))).1, hcI, hdI⟩, F', fun p hp => N' p (hx p hp), hc, hJ', hlt', rfl⟩
    cases f with
    | ret v => exact p
    | brk => exact p
    | next => exact fin p
    | cont => exact fin p
  · have hin : i = vs.length := by omega
    subst hin
    refine wpAny_pyNext_list_end hh hit hlh (by simp) fun h₁ hx => wpAny_execs_nil ?_
    obtain ⟨F₂, N₂⟩ := next h₁ hx
    exact done m₁ news₁ h₁ tk hJ F₂ N₂
/-- a list's iterator is no tuple's owner -/
theorem go_list {elts : List Expr} {x1 : Nat} {pos : Pos} {I l : Addr} {i : Nat} {a : Addr} {Q' : Unit → Shared → Prop} (hit : s.heap.IsListIter I l i) (hQ : Q' () s) :
    wpAny (model prog w) A (letOwnedTupleGo (.Tuple elts x1 pos) (.ref I) (.ref a)) Q' E s := wpAny_letOwnedTupleGo_listiter hit hQ
theorem go_name {x : Str} {pos : Pos} {it v : Value} {Q' : Unit → Shared → Prop} (hQ : Q' () s) : wpAny (model prog w) A (letOwnedTupleGo (.Name x pos) it v) Q' E s := by
  unfold letOwnedTupleGo
  exact wpAny_pure hQ
theorem stored_fn {stored : List Str} {m₀ m₁ : Str → Option Value} (hm : ∀ z, stored.contains z = false → m₁ z = m₀ z) : m₁ = fun y => if stored.contains y then m₁ y else m₀ y := by
  funext y
  cases hc : stored.contains y with
  | true => simp
  | false => simp [hm y hc]
/-- behind a turn that keeps nothing but the names -/
def SPost (h₀ : Heap) (L : Addr) (stored : List Str) (m₀ : Str → Option Value) (own : List (Addr × Obj)) (J : Prop) (s : Shared) (Q : Flow → Shared → Prop) (f : Flow) (s₂ : Shared) : Prop :=
  match f with
  | .ret v => Q (.ret v) s₂
  | .brk => Q .next s₂
  | _ => ∃ h' tk m' news', s₂ = { s with heap := h', toks := tk } ∧ Fr h₀ L h' m' ∧ News h₀ L h' news' ∧ (∀ p ∈ own, p ∈ news') ∧ (∀ z, stored.contains z = false → m' z = m₀ z) ∧ J
theorem spost_next {L : Addr} {stored : List Str} {own news' : List (Addr × Obj)} {m₀ m' : Str → Option Value} {J : Prop} {h' : Heap} {tk : Nat} (F : Fr h₀ L h' m') (N : News h₀ L h' news') (hn : ∀ p ∈ own, p ∈ news') (hm : ∀ z, stored.contains z = false → m' z = m₀ z) (hj : J) :
    SPost h₀ L stored m₀ own J s Q .next { s with heap := h', toks := tk } := ⟨h', tk, m', news', rfl, F, N, hn, hm, hj⟩
theorem iter_tgtS {l : Addr} {vs : List Value} {m₀ : Str → Option Value} (stored : List Str) (J : Nat → Prop)
    (hh : A.handled = none) (hl : h₀.IsList l vs.toArray) (F : Fr h₀ env.locals s.heap m₀) (hj : J 0)
    (hgo : ∀ (s' : Shared) (I : Addr) i v (Q' : Unit → Shared → Prop), v ∈ vs → s'.heap.IsListIter I l i → Q' () s' → wpAny (model prog w) A (letOwnedTupleGo target (.ref I) v) Q' E s')
    (turn : ∀ i v own (u : Str → Option Value) h tk, vs[i]? = some v → J i → Fr h₀ env.locals h (fun y => if stored.contains y then u y else m₀ y) → News h₀ env.locals h own →
      wpAny (model prog w) A (assign target env v) (fun _ s₂ => wpAny (model prog w) A (execs body env) (SPost h₀ env.locals stored m₀ own (J (i + 1)) { s with heap := h, toks := tk } Q) E s₂) E { s with heap := h, toks := tk })
    (done : ∀ (u : Str → Option Value) h tk, J vs.length → Fr h₀ env.locals h (fun y => if stored.contains y then u y else m₀ y) → News h₀ env.locals h [] → Q .next { s with heap := h, toks := tk })
    (hE : PassesOwn (model prog w) A env E := by passes_own) :
    wpAny (model prog w) A (pyIter (.ref l)) (fun it s₂ => LoopAtG prog w A env target body Q E it s₂) E s := by
  refine iter_tgt (fun i m nx => nx = [] ∧ (∀ z, stored.contains z = false → m z = m₀ z) ∧ J i) hh hl F News.nil ⟨rfl, fun _ _ => rfl, hj⟩ (fun _ hp => nomatch hp) hgo ?_ ?_ hE
  · rintro i v I oI m₁ news₁ h tk hv ⟨rfl, hm, hJ⟩ _ _ F₁ N₁
    rw [stored_fn hm] at F₁
    refine wpAny_mono (turn i v [(I, oI)] m₁ h tk hv hJ F₁ (by simpa using N₁)) (fun _ s₂ h₂ => wpAny_mono h₂ (fun f s₃ p => ?_) fun _ _ e => e) fun _ _ e => e
    have fin : (∃ h' tk' m' news', s₃ = ({ s with heap := h', toks := tk' } : Shared) ∧ Fr h₀ env.locals h' m' ∧ News h₀ env.locals h' news' ∧ (∀ p ∈ [(I, oI)], p ∈ news') ∧ (∀ z, stored.contains z = false → m' z = m₀ z) ∧ J (i + 1)) →
        ∃ h' tk' m' news' nx, s₃ = ({ s with heap := h', toks := tk' } : Shared) ∧ Fr h₀ env.locals h' m' ∧ News h₀ env.locals h' news' ∧ (∀ p ∈ [(I, oI)], p ∈ news') ∧ (∀ p ∈ nx, p ∈ news') ∧ (∀ p ∈ nx, NotIter p.2) ∧ (nx = [] ∧ (∀ z, stored.contains z = false → m' z = m₀ z) ∧ J (i + 1)) := by
      rintro ⟨h', tk', m', news', rfl, F', N', hn, hm', hJ'⟩
      exact ⟨h', tk', m', news', [], rfl, F', N', hn, fun _ hp => (nomatch hp), fun _ hp => (nomatch hp), rfl, hm', hJ'⟩
    cases f with
    | ret v => exact p
    | brk => exact p
    | next => exact fin p
    | cont => exact fin p
  · rintro m₁ news₁ h tk ⟨rfl, hm, hJ⟩ F₁ N₁
    rw [stored_fn hm] at F₁
    exact done m₁ h tk hJ F₁ N₁
end
-- Cmp
section
variable {prog : Program} {w : World} {A : Around} {E : Value → Shared → Prop} {env : Env}
/-- behind a comprehension's source: a list, tests and elements that build nothing that lasts -/
def CFP (prog : Program) (w : World) (A : Around) (env : Env) (scope : Scope) (cl : List (Str × Addr)) (x : Str) (ifs : List Expr) (elt : Expr) (Q : Value → Shared → Prop) (xv : Value) (s₁ : Shared) : Prop :=
  ∃ (p : Value → Bool) (F : Value → Value → Prop) (h₀ : Heap) (L : Addr) (m : Str → Option Value) (news : List (Addr × Obj)) (l : Addr) (vs : List Value),
    xv = .ref l ∧ s₁.heap.IsList l vs.toArray ∧ vs.length ≤ sizeLine ∧ Fr h₀ L s₁.heap m ∧ News h₀ L s₁.heap news ∧
    (∀ C v s₂ (m₂ : Str → Option Value) E', v ∈ vs → Fr h₀ (compEnvC scope cl C env).locals s₂.heap (fun z => if z = x then some v else m₂ z) → News h₀ (compEnvC scope cl C env).locals s₂.heap news → Ext s₁.heap s₂.heap →
      wpAny (model prog w) A (forIn ifs true fun c r => if r = true then do let ok ← isTrue c (compEnvC scope cl C env) (eval c (compEnvC scope cl C env)); pure (ForInStep.yield ok) else pure (ForInStep.yield r))
        (fun ok s₃ => ok = p v ∧ Keeps s₂ s₃) E' s₂) ∧
    (∀ C v s₂ (m₂ : Str → Option Value) E', v ∈ vs → p v = true → Fr h₀ (compEnvC scope cl C env).locals s₂.heap (fun z => if z = x then some v else m₂ z) → News h₀ (compEnvC scope cl C env).locals s₂.heap news → Ext s₁.heap s₂.heap →
      wpAny (model prog w) A (eval elt (compEnvC scope cl C env)) (fun y s₃ => F v y ∧ Keeps s₂ s₃) E' s₂) ∧
    (∀ D (ys : List Value) n h' tk, Ext s₁.heap h' → s₁.heap.get? D = none → Fr h₀ L h' m → News h₀ L h' ((D, listOf ys.toArray n) :: news) → Paired F (vs.filter p) ys → Q (.ref D) { s₁ with heap := h', toks := tk })
theorem cfp_intro {scope : Scope} {cl : List (Str × Addr)} {x : Str} {ifs : List Expr} {elt : Expr} {Q : Value → Shared → Prop} {s₁ : Shared} {h₀ : Heap} {L : Addr} {m : Str → Option Value} {news : List (Addr × Obj)} {l : Addr} (vs : List Value)
    (p : Value → Bool) (F : Value → Value → Prop)
    (hl : s₁.heap.IsList l vs.toArray) (hsz : vs.length ≤ sizeLine) (F₁ : Fr h₀ L s₁.heap m) (N₁ : News h₀ L s₁.heap news)
    (h0 : (∀ C v s₂ (m₂ : Str → Option Value) E', v ∈ vs → Fr h₀ (compEnvC scope cl C env).locals s₂.heap (fun z => if z = x then some v else m₂ z) → News h₀ (compEnvC scope cl C env).locals s₂.heap news → Ext s₁.heap s₂.heap →
      wpAny (model prog w) A (forIn ifs true fun c r => if r = true then do let ok ← isTrue c (compEnvC scope cl C env) (eval c (compEnvC scope cl C env)); pure (ForInStep.yield ok) else pure (ForInStep.yield r))
        (fun ok s₃ => ok = p v ∧ Keeps s₂ s₃) E' s₂))
    (h1 : (∀ C v s₂ (m₂ : Str → Option Value) E', v ∈ vs → p v = true → Fr h₀ (compEnvC scope cl C env).locals s₂.heap (fun z => if z = x then some v else m₂ z) → News h₀ (compEnvC scope cl C env).locals s₂.heap news → Ext s₁.heap s₂.heap →
      wpAny (model prog w) A (eval elt (compEnvC scope cl C env)) (fun y s₃ => F v y ∧ Keeps s₂ s₃) E' s₂))
    (h2 : (∀ D (ys : List Value) n h' tk, Ext s₁.heap h' → s₁.heap.get? D = none → Fr h₀ L h' m → News h₀ L h' ((D, listOf ys.toArray n) :: news) → Paired F (vs.filter p) ys → Q (.ref D) { s₁ with heap := h', toks := tk }))
    : CFP prog w A env scope cl x ifs elt Q (.ref l) s₁ := ⟨p, F, h₀, L, m, news, l, vs, rfl, hl, hsz, F₁, N₁, h0, h1, h2⟩
theorem m2_fn {m₂ : Str → Option Value} {x : Str} {v : Value} (h : m₂ x = some v) : (fun z => if z = x then some v else m₂ z) = m₂ := by
  funext z
  by_cases e : z = x
  · simp [e, h]
  · simp [e]
theorem comp_F {elt iter : Expr} {x : Str} {px : Pos} {ifs : List Expr} {scope : Scope} {cl : List (Str × Addr)} {pos : Pos} {s : Shared} {Q : Value → Shared → Prop}
    (hh : A.handled = none) (hclos : closureFor scope env = pure cl) (hcell : ∀ y ∈ scope.names, y.2 ≠ .cell) (hkind : scope.kind = .function)
    (hnames : ∀ y ∈ scope.names, y.2 = .local → scope.names.lookup y.1 = some .local) (hx : scope.names.lookup x = some .local)
    (h : wpAny (model prog w) A (eval iter env) (CFP prog w A env scope cl x ifs elt Q) E s)
    (hs : ∀ x, foldedSetIterable iter env x = pure x := by intro _; rfl) :
    wpAny (model prog w) A (eval (.ListComp elt [⟨.Name x px, iter, ifs, 0⟩] scope pos) env) Q E s := by
  rw [eval_ListComp]
  refine wpAny_comprehension_free (use := none) rfl hs hclos hkind hnames (wpAny_mono h (fun xv s₁ h₁ => ?_) fun _ _ e => e)
  obtain ⟨p, F, h₀, L, m, news, l, vs, rfl, hl, hsz, F₁, N₁, htests, helt, hQ⟩ := h₁
  have hlt : l < s₁.heap.objs.size := by obtain ⟨_, e, _⟩ := hl; exact Heap.lt_size e
  have hnew : h₀.get? s₁.heap.objs.size = none := next_is_new F₁
  have up : ∀ (s₃ : Shared), (∀ b o, b ∉ [s₁.heap.objs.size] → (s₁.heap.push { cls := .type "list_iterator", dict := none, data := .fields #[.ref l, .int 0 0] }).get? b = some o → s₃.heap.get? b = some o) → Ext s₁.heap s₃.heap :=
    fun s₃ hk b o e => hk b o (fun hm => by rcases List.mem_cons.mp hm with rfl | hm; exact Nat.lt_irrefl _ (Heap.lt_size e); cases hm) (Heap.get?_push_of_some _ e)
  have inF : ∀ C (s₃ : Shared) m₃ v, (s₁.heap.push { cls := .type "list_iterator", dict := none, data := .fields #[.ref l, .int 0 0] }).objs.size ≤ C → Ext s₁.heap s₃.heap → s₃.heap.Ns C m₃ → m₃ x = some v →
      Fr h₀ (compEnvC scope cl C env).locals s₃.heap (fun z => if z = x then some v else m₃ z) ∧ News h₀ (compEnvC scope cl C env).locals s₃.heap news := fun C s₃ m₃ v hC hE hn hm => by
    have hC' : s₁.heap.objs.size < C := Nat.lt_of_succ_le (by simpa [Heap.size_push] using hC)
    refine ⟨?_, fun p hp => ⟨hE _ _ (N₁ p hp).1, ?_, (N₁ p hp).2.2⟩⟩
    · rw [m2_fn hm]
      exact ⟨hn, fun b o e => hE b o (F₁.keep b o e), Nat.le_of_lt (Nat.lt_of_le_of_lt (Nat.le_trans F₁.above (Nat.le_of_lt F₁.ns.lt)) hC')⟩
    · exact Nat.ne_of_lt (Nat.lt_trans (Heap.lt_size (N₁ p hp).1) hC')
  refine wpAny_pyIter_list hl ?_
  refine comp_block_walkC (RR := fun acc C => compPost (model prog w) A E none Q acc C) (I := s₁.heap.objs.size) (fp := [s₁.heap.objs.size, l]) (wr := [s₁.heap.objs.size]) (n := vs.toArray.size) (Walks.list hh _ _ (Nat.ne_of_lt hlt) vs.toArray) (by rw [List.size_toArray]; exact hsz) p F hcell hkind hx
    ⟨⟨_, Heap.get?_push_size _ rfl, rfl, rfl⟩, hl.push _⟩ ?_ ⟨?_, ?_⟩ ?_
  · intro b hb
    show b < (s₁.heap.push _).objs.size
    rw [Heap.size_push]
    rcases List.mem_cons.mp hb with rfl | hb
    · exact Nat.lt_succ_self _
    · rcases List.mem_cons.mp hb with rfl | hb
      · exact Nat.lt_succ_of_lt hlt
      · cases hb
  · intro C i v s₃ m₃ E' hC hP hn hm hk _
    have hE := up s₃ hk
    obtain ⟨F₂, N₂⟩ := inF C s₃ m₃ v hC hE hn hm
    exact htests C v s₃ m₃ E' (by simpa using Array.mem_of_getElem? hP) F₂ N₂ hE
  · intro C i v s₃ m₃ E' hC hP hp hn hm hk _
    have hE := up s₃ hk
    obtain ⟨F₂, N₂⟩ := inF C s₃ m₃ v hC hE hn hm
    exact helt C v s₃ m₃ E' (by simpa using Array.mem_of_getElem? hP) hp F₂ N₂ hE
  · intro D C h' tk m' ys vs' hD hC hDC hn hlD hplD hlen hP hF hk
    have e : vs' = vs := by simpa using list_of_places hlen hP
    subst e
    obtain ⟨nD, hpl⟩ := hplD
    refine ⟨m', hn, fun h'' hs'' => ?_⟩
    have keep : Ext s₁.heap h'' := up { s₁ with heap := h'' } fun b o hbf e => hs''.extBut b o (by rintro rfl; rw [hC] at e; cases e) (hk b o hbf e)
    have hDn : s₁.heap.get? D = none := by
      cases e : s₁.heap.get? D with
      | none => rfl
      | some o' => rw [Heap.get?_push_of_some _ e] at hD; cases hD
    refine hQ D ys.toList nD h'' tk keep hDn (fr_ext F₁ keep) (fun p hp => ?_) hF
    rcases List.mem_cons.mp hp with rfl | hp
    · refine ⟨?_, fun e => ?_, ?_⟩
      · have := hs''.extBut _ _ hDC hpl
        rw [Array.toArray_toList]; exact this
      · obtain ⟨o, _, _, ho, _⟩ := F₁.ns
        dsimp only at e
        rw [← e, hDn] at ho; cases ho
      · dsimp only
        cases e : h₀.get? D with
        | none => rfl
        | some o' => rw [F₁.keep _ _ e] at hDn; cases hDn
    · exact news_ext N₁ keep p hp
/-- behind a comprehension's source: bytes -/
def CFB (prog : Program) (w : World) (A : Around) (env : Env) (scope : Scope) (cl : List (Str × Addr)) (x : Str) (ifs : List Expr) (elt : Expr) (Q : Value → Shared → Prop) (xv : Value) (s₁ : Shared) : Prop :=
  ∃ (p : Value → Bool) (F : Value → Value → Prop) (h₀ : Heap) (L : Addr) (m : Str → Option Value) (news : List (Addr × Obj)) (b : Array UInt8) (t : Tok),
    xv = .bytes b t ∧ b.size ≤ sizeLine ∧ Fr h₀ L s₁.heap m ∧ News h₀ L s₁.heap news ∧
    (∀ C v c u s₂ (m₂ : Str → Option Value) E', c ∈ b → v = .int (c.toNat : Int) u → Fr h₀ (compEnvC scope cl C env).locals s₂.heap (fun z => if z = x then some v else m₂ z) → News h₀ (compEnvC scope cl C env).locals s₂.heap news → Ext s₁.heap s₂.heap →
      wpAny (model prog w) A (forIn ifs true fun c r => if r = true then do let ok ← isTrue c (compEnvC scope cl C env) (eval c (compEnvC scope cl C env)); pure (ForInStep.yield ok) else pure (ForInStep.yield r))
        (fun ok s₃ => ok = p v ∧ Keeps s₂ s₃) E' s₂) ∧
    (∀ C v c u s₂ (m₂ : Str → Option Value) E', c ∈ b → v = .int (c.toNat : Int) u → p v = true → Fr h₀ (compEnvC scope cl C env).locals s₂.heap (fun z => if z = x then some v else m₂ z) → News h₀ (compEnvC scope cl C env).locals s₂.heap news → Ext s₁.heap s₂.heap →
      wpAny (model prog w) A (eval elt (compEnvC scope cl C env)) (fun y s₃ => F v y ∧ Keeps s₂ s₃) E' s₂) ∧
    (∀ D (ys vs : List Value) n h' tk, vs.length = b.size → (∀ (j : Nat) v, vs[j]? = some v → ∃ c u, b[j]? = some c ∧ v = .int (c.toNat : Int) u) → Ext s₁.heap h' → s₁.heap.get? D = none → Fr h₀ L h' m → News h₀ L h' ((D, listOf ys.toArray n) :: news) → Paired F (vs.filter p) ys → Q (.ref D) { s₁ with heap := h', toks := tk })
theorem cfb_intro {scope : Scope} {cl : List (Str × Addr)} {x : Str} {ifs : List Expr} {elt : Expr} {Q : Value → Shared → Prop} {s₁ : Shared} {h₀ : Heap} {L : Addr} {m : Str → Option Value} {news : List (Addr × Obj)} {b : Array UInt8} {t : Tok}
    (p : Value → Bool) (F : Value → Value → Prop)
    (hsz : b.size ≤ sizeLine) (F₁ : Fr h₀ L s₁.heap m) (N₁ : News h₀ L s₁.heap news)
    (h0 : (∀ C v c u s₂ (m₂ : Str → Option Value) E', c ∈ b → v = .int (c.toNat : Int) u → Fr h₀ (compEnvC scope cl C env).locals s₂.heap (fun z => if z = x then some v else m₂ z) → News h₀ (compEnvC scope cl C env).locals s₂.heap news → Ext s₁.heap s₂.heap →
      wpAny (model prog w) A (forIn ifs true fun c r => if r = true then do let ok ← isTrue c (compEnvC scope cl C env) (eval c (compEnvC scope cl C env)); pure (ForInStep.yield ok) else pure (ForInStep.yield r))
        (fun ok s₃ => ok = p v ∧ Keeps s₂ s₃) E' s₂))
    (h1 : (∀ C v c u s₂ (m₂ : Str → Option Value) E', c ∈ b → v = .int (c.toNat : Int) u → p v = true → Fr h₀ (compEnvC scope cl C env).locals s₂.heap (fun z => if z = x then some v else m₂ z) → News h₀ (compEnvC scope cl C env).locals s₂.heap news → Ext s₁.heap s₂.heap →
      wpAny (model prog w) A (eval elt (compEnvC scope cl C env)) (fun y s₃ => F v y ∧ Keeps s₂ s₃) E' s₂))
    (h2 : (∀ D (ys vs : List Value) n h' tk, vs.length = b.size → (∀ (j : Nat) v, vs[j]? = some v → ∃ c u, b[j]? = some c ∧ v = .int (c.toNat : Int) u) → Ext s₁.heap h' → s₁.heap.get? D = none → Fr h₀ L h' m → News h₀ L h' ((D, listOf ys.toArray n) :: news) → Paired F (vs.filter p) ys → Q (.ref D) { s₁ with heap := h', toks := tk }))
    : CFB prog w A env scope cl x ifs elt Q (.bytes b t) s₁ := ⟨p, F, h₀, L, m, news, b, t, rfl, hsz, F₁, N₁, h0, h1, h2⟩
theorem comp_B {elt iter : Expr} {x : Str} {px : Pos} {ifs : List Expr} {scope : Scope} {cl : List (Str × Addr)} {pos : Pos} {s : Shared} {Q : Value → Shared → Prop}
    (hh : A.handled = none) (hclos : closureFor scope env = pure cl) (hcell : ∀ y ∈ scope.names, y.2 ≠ .cell) (hkind : scope.kind = .function)
    (hnames : ∀ y ∈ scope.names, y.2 = .local → scope.names.lookup y.1 = some .local) (hx : scope.names.lookup x = some .local)
    (h : wpAny (model prog w) A (eval iter env) (CFB prog w A env scope cl x ifs elt Q) E s)
    (hs : ∀ x, foldedSetIterable iter env x = pure x := by intro _; rfl) :
    wpAny (model prog w) A (eval (.ListComp elt [⟨.Name x px, iter, ifs, 0⟩] scope pos) env) Q E s := by
  rw [eval_ListComp]
  refine wpAny_comprehension_free (use := none) rfl hs hclos hkind hnames (wpAny_mono h (fun xv s₁ h₁ => ?_) fun _ _ e => e)
  obtain ⟨p, F, h₀, L, m, news, b, t, rfl, hsz, F₁, N₁, htests, helt, hQ⟩ := h₁
  have hnew : h₀.get? s₁.heap.objs.size = none := next_is_new F₁
  have up : ∀ (s₃ : Shared), (∀ b' o, b' ∉ [s₁.heap.objs.size] → (s₁.heap.push { cls := .type "bytes_iterator", dict := none, data := .fields #[.bytes b t, .int 0 0] }).get? b' = some o → s₃.heap.get? b' = some o) → Ext s₁.heap s₃.heap :=
    fun s₃ hk b o e => hk b o (fun hm => by rcases List.mem_cons.mp hm with rfl | hm; exact Nat.lt_irrefl _ (Heap.lt_size e); cases hm) (Heap.get?_push_of_some _ e)
  have inF : ∀ C (s₃ : Shared) m₃ v, (s₁.heap.push { cls := .type "bytes_iterator", dict := none, data := .fields #[.bytes b t, .int 0 0] }).objs.size ≤ C → Ext s₁.heap s₃.heap → s₃.heap.Ns C m₃ → m₃ x = some v →
      Fr h₀ (compEnvC scope cl C env).locals s₃.heap (fun z => if z = x then some v else m₃ z) ∧ News h₀ (compEnvC scope cl C env).locals s₃.heap news := fun C s₃ m₃ v hC hE hn hm => by
    have hC' : s₁.heap.objs.size < C := Nat.lt_of_succ_le (by simpa [Heap.size_push] using hC)
    refine ⟨?_, fun p hp => ⟨hE _ _ (N₁ p hp).1, ?_, (N₁ p hp).2.2⟩⟩
    · rw [m2_fn hm]
      exact ⟨hn, fun b o e => hE b o (F₁.keep b o e), Nat.le_of_lt (Nat.lt_of_le_of_lt (Nat.le_trans F₁.above (Nat.le_of_lt F₁.ns.lt)) hC')⟩
    · exact Nat.ne_of_lt (Nat.lt_trans (Heap.lt_size (N₁ p hp).1) hC')
  refine KBw.pyIter_bytes ?_
  refine comp_block_walkC (RR := fun acc C => compPost (model prog w) A E none Q acc C) (I := s₁.heap.objs.size) (fp := [s₁.heap.objs.size]) (wr := [s₁.heap.objs.size]) (n := b.size) (KBw.walks hh _ b t) hsz p F hcell hkind hx
    ⟨_, Heap.get?_push_size _ rfl, rfl, rfl⟩ ?_ ⟨?_, ?_⟩ ?_
  · intro b' hb
    show b' < (s₁.heap.push _).objs.size
    rw [Heap.size_push]
    rcases List.mem_cons.mp hb with rfl | hb
    · exact Nat.lt_succ_self _
    · cases hb
  · intro C i v s₃ m₃ E' hC hP hn hm hk _
    have hE := up s₃ hk
    obtain ⟨F₂, N₂⟩ := inF C s₃ m₃ v hC hE hn hm
    obtain ⟨c, u, hc, hv⟩ := hP
    exact htests C v c u s₃ m₃ E' (Array.mem_of_getElem? hc) hv F₂ N₂ hE
  · intro C i v s₃ m₃ E' hC hP hp hn hm hk _
    have hE := up s₃ hk
    obtain ⟨F₂, N₂⟩ := inF C s₃ m₃ v hC hE hn hm
    obtain ⟨c, u, hc, hv⟩ := hP
    exact helt C v c u s₃ m₃ E' (Array.mem_of_getElem? hc) hv hp F₂ N₂ hE
  · intro D C h' tk m' ys vs' hD hC hDC hn hlD hplD hlen hP hF hk
    obtain ⟨nD, hpl⟩ := hplD
    refine ⟨m', hn, fun h'' hs'' => ?_⟩
    have keep : Ext s₁.heap h'' := up { s₁ with heap := h'' } fun b o hbf e => hs''.extBut b o (by rintro rfl; rw [hC] at e; cases e) (hk b o hbf e)
    have hDn : s₁.heap.get? D = none := by
      cases e : s₁.heap.get? D with
      | none => rfl
      | some o' => rw [Heap.get?_push_of_some _ e] at hD; cases hD
    refine hQ D ys.toList vs' nD h'' tk hlen hP keep hDn (fr_ext F₁ keep) (fun p hp => ?_) hF
    rcases List.mem_cons.mp hp with rfl | hp
    · refine ⟨?_, fun e => ?_, ?_⟩
      · have := hs''.extBut _ _ hDC hpl
        rw [Array.toArray_toList]; exact this
      · obtain ⟨o, _, _, ho, _⟩ := F₁.ns
        dsimp only at e
        rw [← e, hDn] at ho; cases ho
      · dsimp only
        cases e : h₀.get? D with
        | none => rfl
        | some o' => rw [F₁.keep _ _ e] at hDn; cases hDn
    · exact news_ext N₁ keep p hp
end
-- Bx
set_option maxRecDepth 100000
theorem slot_bytes_index : Slot "bytes" "index" "bytes.index" :=
  .of (owner := "bytes") (n := "index") (by rw [typeLookup_type, builtinLookup_eq_fast]; kernel_rfl) (by decide +kernel) (by decide +kernel) (by decide +kernel)
    (by first | exact .inl (by decide +kernel) | exact .inr (by decide +kernel)) (by rw [isSubtype_type]; kernel_rfl)
theorem type_bytes_index : typeOf (.builtin "bytes.index") = pure (.type "method_descriptor") := by show builtinType _ = _; rw [builtinType_eq_fast]; kernel_rfl
theorem entry_bytes_index : entryFor table "bytes.index" = some Builtin.«bytes.index» := entryFor_of_tree (by kernel_rfl)
theorem args_bytes_index_2 (a b : Value) : argsOk "bytes.index" ⟨[a, b], []⟩ := by
  unfold argsOk; rw [signature?_of (id := "bytes.index") (n := ['x', 'e', 'd', 'n', 'i']) (o := ['s', 'e', 't', 'y', 'b']) (by kernel_rfl) FB.owner_bytes]; kernel_rfl
section
variable {prog : Program} {w : World} {A : Around} {E : Value → Shared → Prop} {s : Shared} {b : Array UInt8} {c : Int} {t u : Tok}
theorem in_bytes {r : Bool} {Q : Value → Shared → Prop} (_e : b.contains c.toNat.toUInt8 = r) (g : Gives (Builtin.«bytes.__contains__» ⟨[.bytes b t, .int c u], []⟩) (.val (.bool r))) (h : Q (.bool r) s) :
    wpAny (model prog w) A (compareOp .In (.int c u) (.bytes b t)) Q E s :=
  in_gives (typeIs_bytes _ _ _) FB.slot_bytes_contains FB.entry_bytes_contains (FB.args_bytes_contains_2 _ _) g h
theorem method_index {M : Model} {pl : Sem Bool} {Q : Value × List Value → Shared → Prop} (h : Q (.builtin "bytes.index", [.bytes b t]) s) : wpAny M A (getMethod (.bytes b t) "index" pl) Q E s := by
  with_reducible exact KBd.method_of (.bytes b t) (typeIs_bytes _ _ _) slot_bytes_index type_bytes_index KBd.noRef h
theorem call_index {i : Int} {Q : Value → Shared → Prop} (_e : ((b.toList.findIdx fun x => x == c.toNat.toUInt8 : Nat) : Int) = i) (g : Gives (Builtin.«bytes.index» ⟨[.bytes b t, .int c u], []⟩) (.int i)) (h : Q (.int i s.toks) { s with toks := s.toks + 1 }) :
    wpAny (model prog w) A (call (.builtin "bytes.index") [.bytes b t, .int c u]) Q E s :=
  call_gives slot_bytes_index (typeIs_bytes _ _ _) entry_bytes_index (args_bytes_index_2 _ _) g h
end
local macro_rules | `(tactic| walk_at "compareOp In int bytes") => `(tactic| (k_here; first | (refine in_bytes (r := true) (by decide +kernel) (.of_eq (by kernel_rfl)) ?_) | (refine in_bytes (r := false) (by decide +kernel) (.of_eq (by kernel_rfl)) ?_)))
local macro_rules | `(tactic| walk_at "getMethod bytes") => `(tactic| (k_here; (with_reducible refine method_index ?_)))
local macro_rules | `(tactic| walk_at "call builtin:bytes.index") => `(tactic| (k_here; first | (refine call_index (i := 0) (by decide +kernel) (.of_eq (by kernel_rfl)) ?_) | (refine call_index (i := 1) (by decide +kernel) (.of_eq (by kernel_rfl)) ?_)))
theorem hide_ext {h₀ h : Heap} {l : Addr} (x : Ext h₀ h) (hl : h₀.get? l = none) : Ext h₀ (hideAll h [l]) := fun b o e => hideAll_get [l] (x b o e) (fun hm => by rw [List.mem_singleton.mp hm, hl] at e; cases e)
theorem hide_up {h h' : Heap} {l : Addr} {o : Obj} (x : Ext (hideAll h [l]) h') (hl : h.get? l = some o) (hl' : h'.get? l = some o) : Ext h h' := fun b o' e => by
  by_cases hb : b = l
  · subst hb; rw [hl] at e; rw [← e]; exact hl'
  · exact x b o' (hideAll_get [l] e (by simpa using hb))
theorem enterHL {w : World} {A : Around} {s : Shared} {K : Frag} {p : Program} {loose : List Str} {mean : ExcName → Option Value} {mg mb : Str → Option Value} {h₀ : Heap} {l : Addr} {o : Obj}
    {name qual : Str} {params : Arguments} {body : List Stmt} {scope : Scope} {dV kV doc pm cdv ct oc : Value} {an od : Option Addr} {osl : Array (Option Value)} {f : Addr} {args : List Value} {kw : List (Str × Value)} {binds : List (Str × Value)}
    {Q : Value → Shared → Prop} {E : Value → Shared → Prop}
    (X : K.In h₀) (T : Top p loose mean mg mb h₀) (hx : Ext h₀ s.heap) (hl0 : h₀.get? l = none) (hl : s.heap.get? l = some o)
    (ho : K.lookup f = some ⟨oc, od, .func (fnOf name qual params body scope dV kV doc pm an cdv ct), osl⟩) (hcd : codeIn K cdv qual = true) (hroom : A.depth < recursionLimit)
    (hbind : BindsTo s (fnOf name qual params body scope dV kV doc pm an cdv ct) ⟨args, kw⟩ binds) (hloc : ∀ y ∈ binds, scope.names.lookup y.1 = some .local)
    (hcell : ∀ x ∈ scope.names, x.2 ≠ .cell)
    (hco : scope.isCoroutine = false) (hgen : scope.isGenerator = false) (hk : scope.kind = .function)
    (h : ∀ g h₁, K.In g → Top p loose mean mg mb g → (∀ h', Ext g h' → h'.get? l = some o → Ext s.heap h') → Fr g s.heap.objs.size h₁ (fun y => binds.reverse.lookup y) → News g s.heap.objs.size h₁ [(l, o)] →
      wpAny (model Challenge.rw_pc0145_01.row.prog w) (A.deeper (envOf qual scope s.heap.objs.size f cdv)) (execs body (envOf qual scope s.heap.objs.size f cdv))
        (fun fl s' => Q (match fl with | .ret v => v | _ => .none) s') (fun _ _ => False)
        { s with heap := h₁, toks := s.toks + binds.length }) :
    wpAny (model Challenge.rw_pc0145_01.row.prog w) A (call (.ref f) args kw) Q E s := by
  refine wpAny_call ?_
  refine codeAny_call_def (fd := fnOf name qual params body scope dV kV doc pm an cdv ct) (body := body) (binds := binds) hroom (X.keeps hx _ _ ho) rfl (T.keeps hx).nolimit (codeRec_of (X.keeps hx) hcd) rfl hbind hcell hloc (fun h₁ hns hk₁ => ?_) hco hgen hk
  refine wpAny_mono (h (hideAll s.heap [l]) h₁ (X.keeps (hide_ext hx hl0)) (T.keeps (hide_ext hx hl0)) (fun h' hg hl' => hide_up hg hl hl') ⟨hns, fun b o e => hk₁ b o (of_hideAll [l] e), Nat.le_of_eq (hideAll_size _ _)⟩ ?_) (fun fl s' q => q) (fun e s' q => q.elim)
  intro p hp
  rw [List.mem_singleton.mp hp]
  exact ⟨hk₁ _ _ hl, Nat.ne_of_lt (Heap.lt_size hl), hideAll_none [l] (List.mem_singleton.mpr rfl)⟩
section
variable {prog : Program} {w : World} {A : Around} {E : Value → Shared → Prop} {s : Shared} {b : Array UInt8} {t : Tok}
theorem look_dbytes : typeLookup (.type "bytes") "__bytes__" = pure (some (.builtin "bytes.__bytes__")) := by rw [typeLookup_type, builtinLookup_eq_fast]; kernel_rfl
theorem bm_newB {Q : Value → Shared → Prop} (hQ : Q (.bytes b t) s) : codeAny (model prog w) A (.call (.builtin "bytes.__new__") ⟨[.type "bytes", .bytes b t], []⟩) (wants Q E) s := by
  refine codeAny_of_tree ?_
  show wpAny _ A.in1 (do checkBuiltinCall "bytes.__new__" ⟨[.type "bytes", .bytes b t], []⟩; again (.builtin "bytes.__new__" ⟨[.type "bytes", .bytes b t], []⟩)) _ _ s
  refine wpAny_bind (wpAny_of_eq (F.bm_newCall _) (wpAny_pure ⟨plainId_quiet F.bm_plain _, codeAny_builtin F.bm_entry ?_⟩))
  rw [Around.under_plainId F.bm_plain _]
  unfold Builtin.«bytes.__new__»
  refine wpAny_bind (wpAny_of_eq (a := true) rfl ?_)
  refine bm_if_false rfl ?_
  refine wpAny_bind (wpAny_of_eq F.bm_sub ?_)
  refine bm_if_false rfl ?_
  refine wpAny_bind (wpAny_of_eq (F.bm_bind _) ?_)
  refine wpAny_bind (wpAny_of_eq (a := ()) rfl ?_)
  refine wpAny_bind (wpAny_of_eq (a := ()) rfl ?_)
  refine bm_if_false rfl ?_
  refine wpAny_bind (wpAny_specialOf (typeIs_bytes s b t) look_dbytes ?_)
  refine wpAny_bind (wpAny_rule ?_)
  refine wpAny_bind (wpAny_typeOf (typeIs_bytes s b t) ?_)
  refine bm_if_true (by decide) ?_
  show wpAny _ _ (if (Value.type "bytes" == Value.type "bytes") = true then _ else _) _ _ _
  refine bm_if_true (by decide) ?_
  first
    | exact wpAny_pure hQ
    | exact wpAny_bind (wpAny_pure (wpAny_pure hQ))
theorem call_bytesB {Q : Value → Shared → Prop} (hQ : Q (.bytes b t) s) : wpAny (model prog w) A (call (.type "bytes") [.bytes b t]) Q E s := by
  refine callType_codes (Q₁ := fun obj s₁ => s₁.TypeIs obj "bytes" ∧ Q obj s₁) F.bm_called (F.bm_typeCall _) F.entry_object_init
    (bm_newB ⟨PySem.W.typeIs_bytes _ _ _, hQ⟩) fun obj s₁ h₁ => ?_
  exact ⟨h₁.1, F.args_object_init_2 obj _, object_init_meets F.bm_called.init.lookup F.bm_called.made (by decide) prog w A.in1 _ s₁ ⟨h₁.1, rfl, h₁.2⟩⟩
end
local macro_rules | `(tactic| walk_at "call type:bytes") => `(tactic| (k_here; (with_reducible show wpAny _ _ (call (Value.type "bytes") [Value.bytes _ _]) _ _ _); refine call_bytesB ?_))
-- Lf
theorem news_none {h₀ h : Heap} {L D : Addr} {o : Obj} {news : List (Addr × Obj)} (N : News h₀ L h news) (hm : (D, o) ∈ news) : h₀.get? D = none := (N _ hm).2.2
theorem news_at {h₀ h : Heap} {L D : Addr} {o : Obj} {news : List (Addr × Obj)} (N : News h₀ L h news) (hm : (D, o) ∈ news) : h.get? D = some o := (N _ hm).1
theorem int_eq {a b : Int} {t : Tok} (h : a = b) : Value.int a t = Value.int b t := h ▸ rfl
theorem bytes_eq {a b : Array UInt8} {t : Tok} (h : a = b) : Value.bytes a t = Value.bytes b t := h ▸ rfl
/-- a figure's octet, what it is, whether it is negative -/
def sig (c i : Int) (neg : Bool) : Prop := (c = 74 ∧ i = 1 ∧ neg = true) ∨ (c = 65 ∧ i = 1 ∧ neg = false) ∨ (c = 123 ∧ i = 0 ∧ neg = false) ∨ (c = 125 ∧ i = 0 ∧ neg = true)
set_option maxRecDepth 100000 in
set_option maxHeartbeats 4000000 in
theorem signedfig : ∀ {w : World} {mean : ExcName → Option Value} {mg mb : Str → Option Value} {s : Shared} {dp un : Nat} {fr : Option (List Env)} {gd : Option (List Code)} {Q : Value → Shared → Prop} {E : Value → Shared → Prop} {c i : Int} {neg : Bool} {tu : Nat},
   (Mine.hd.heap_39 w.params).In s.heap → Top Mine.hd.view_39 LL mean mg mb s.heap → dp + 1 < recursionLimit → un + 58 < cLine →
   (sig c i neg) →
   (∀ h' tk' (T tt : Nat), Ext s.heap h' → s.heap.get? T = none → IsTup h' T #[.int i tt, .bool neg] → Q (.ref T) { s with heap := h', toks := tk' }) →
   wpAny (model Challenge.rw_pc0145_01.row.prog w) ⟨none, dp, fr, gd, un⟩ (call (.ref 229) [.int c tu]) Q E s := by
  k_fill
  intro w mean mg mb s dp un fr gd Q E c i neg tu X T hd hu H0 hQ
  rcases H0 with ⟨rfl, rfl, rfl⟩ | ⟨rfl, rfl, rfl⟩ | ⟨rfl, rfl, rfl⟩ | ⟨rfl, rfl, rfl⟩
  all_goals
    k_dflt cell_enter
    (try k_fold)
    k_steps
    (rename News _ _ _ _ => N9)
    (rename Fr _ _ _ _ => F9)
    (((try dsimp only); (repeat (k_unfold; (try dsimp only)))))
    refine' q_end (hQ _ _ _ _ F9.keep (N9 _ (List.Mem.head _)).2.2 ⟨_, (N9 _ (List.Mem.head _)).1, rfl, _, rfl⟩) rfl
set_option maxRecDepth 100000 in
set_option maxHeartbeats 4000000 in
theorem joined : ∀ {w : World} {mean : ExcName → Option Value} {mg mb : Str → Option Value} {s : Shared} {dp un : Nat} {fr : Option (List Env)} {gd : Option (List Code)} {Q : Value → Shared → Prop} {E : Value → Shared → Prop} {h₀ : Heap} {u v : Int} {tu tv : Nat} {l : Addr} {n : Nat},
   (Mine.hd.heap_39 w.params).In s.heap → Top Mine.hd.view_39 LL mean mg mb s.heap → dp + 1 < recursionLimit → un + 58 < cLine →
   ((Mine.hd.heap_39 w.params).In h₀) →
   (Top Mine.hd.view_39 LL mean mg mb h₀) →
   (Ext h₀ s.heap) →
   (h₀.get? l = none) →
   (s.heap.get? l = some (listOf #[.int u tu, .int v tv] n)) →
   (0 ≤ u ∧ u ≤ 9) →
   (0 ≤ v ∧ v ≤ 9) →
   (∀ h' tk' (tt : Nat), Ext s.heap h' → Q (.int (10 * u + v) tt) { s with heap := h', toks := tk' }) →
   wpAny (model Challenge.rw_pc0145_01.row.prog w) ⟨none, dp, fr, gd, un⟩ (call (.ref 222) [.ref l]) Q E s := by
  k_fill
  intro w mean mg mb s dp un fr gd Q E h₀ u v tu tv l n X T hd hu H0 H1 H2 H3 H4 H5 H6 hQ
  clear X T
  k_dflt ((refine' enterHL ?k1x2 ?k2x2 ?k3x2 ?k4x2 ?k5x2 ?k6x2 ?k7x2 ?k8x2 ?k9x2 ?kBx2 ?c5x2 ?c2x2 ?c3x2 ?c4x2 ?_; (case k1x2 => assumption); (case k2x2 => assumption); (case k3x2 => assumption); (case k4x2 => assumption); (case k5x2 => assumption); (case k6x2 => k_is); (case k7x2 => k_is); (case k8x2 => first | assumption | omega | ktr_room); (case k9x2 => exact BindsTo.of_eq rfl); (case c5x2 => decide); (case kBx2 => exact locs rfl); (case c2x2 => exact rfl); (case c3x2 => exact rfl); (case c4x2 => exact rfl); k_whole))
  intro g h₁ X T hup F N
  (try dsimp only)
  (try k_fold)
  k_steps
  (rename News _ _ _ _ => N9)
  (rename Fr _ _ _ _ => F9)
  (((try dsimp only); (repeat (k_unfold; (try dsimp only)))))
  have hm := (N9 (l, listOf #[.int u tu, .int v tv] n) (by k_mem)).1
  refine' q_end (hQ _ _ ?tt (hup _ F9.keep hm)) ?e
  case e => (refine int_eq ?_; omega)
local macro_rules | `(tactic| walk_at "sf_behind") => `(tactic| (intro h' tk' T tt hx hnone hT; (try dsimp only at hx hnone hT); (have F' := fr_ext (by assumption) hx); (have N' := news_ext (by assumption) hx); (try k_sweep); (try dsimp only)))
local macro_rules | `(tactic| walk_at "call ref") => `(tactic| (k_here; (with_reducible show wpAny _ _ (call (Value.ref 229) _ _) _ _ _); k_dflt (refine' signedfig ?kX ?kT ?kD ?kU ?h0 ?_; (case kX => k_in); (case kT => walk_at "htop"); (case kD => walk_at "hroom"); (case kU => walk_at "hroom"); (case h0 => (first | assumption | exact .inl ⟨rfl, rfl, rfl⟩ | exact .inr (.inl ⟨rfl, rfl, rfl⟩) | exact .inr (.inr (.inl ⟨rfl, rfl, rfl⟩)) | exact .inr (.inr (.inr ⟨rfl, rfl, rfl⟩)))); k_whole); walk_at "sf_behind"))
set_option maxRecDepth 100000 in
set_option maxHeartbeats 4000000 in
theorem signplace : ∀ {w : World} {mean : ExcName → Option Value} {mg mb : Str → Option Value} {s : Shared} {dp un : Nat} {fr : Option (List Env)} {gd : Option (List Code)} {Q : Value → Shared → Prop} {E : Value → Shared → Prop} {sh d : Addr} {q : HK} {vp : Value} {n : Nat},
   (Mine.hd.heap_39 w.params).In s.heap → Top Mine.hd.view_39 LL mean mg mb s.heap → dp + 1 < recursionLimit → un + 58 < cLine →
   (NumAt s.heap sh d q vp n) →
   (∀ h' tk' (tt : Nat), Ext s.heap h' → Q (.int 1 tt) { s with heap := h', toks := tk' }) →
   wpAny (model Challenge.rw_pc0145_01.row.prog w) ⟨none, dp, fr, gd, un⟩ (call (.ref 108) [.ref sh]) Q E s := by
  k_fill
  intro w mean mg mb s dp un fr gd Q E sh d q vp n X T hd hu H0 hQ
  k_dflt cell_enter
  (try k_fold)
  k_steps
  all_goals ((((try dsimp only); (repeat (k_unfold; (try dsimp only))))); (try (first | (refine' q_end (hQ _ _ _ ?e1) ?e2; (case e2 => (first | rfl | (refine congrArg Value.bool ?_; first | rfl | decide +kernel | (simp; done)) | (refine congrArg₂ Value.int ?_ rfl; first | rfl | omega | decide +kernel | (simp; done) | (simp; omega)) | (refine congrArg₂ Value.bytes ?_ rfl; first | rfl | decide +kernel | (simp; done)))); (case e1 => (exact Fr.keep (by assumption)))) | (refine' q_end (hQ _ _ 0 ?e1) ?e2; (case e2 => (first | rfl | (refine congrArg Value.bool ?_; first | rfl | decide +kernel | (simp; done)) | (refine congrArg₂ Value.int ?_ rfl; first | rfl | omega | decide +kernel | (simp; done) | (simp; omega)) | (refine congrArg₂ Value.bytes ?_ rfl; first | rfl | decide +kernel | (simp; done)))); (case e1 => (exact Fr.keep (by assumption)))))))
local macro_rules | `(tactic| walk_at "call ref") => `(tactic| (k_here; (with_reducible show wpAny _ _ (call (Value.ref 108) _ _) _ _ _); k_dflt (refine' signplace ?kX ?kT ?kD ?kU ?h0 ?_; (case kX => k_in); (case kT => walk_at "htop"); (case kD => walk_at "hroom"); (case kU => walk_at "hroom"); (case h0 => walk_at "hnum"); k_whole); walk_at "hbehind"))
theorem two_ints {x y : UInt8} {vs : List Value} (hl : vs.length = (#[x, y] : Array UInt8).size) (h : ∀ (j : Nat) v, vs[j]? = some v → ∃ c u, (#[x, y] : Array UInt8)[j]? = some c ∧ v = .int (c.toNat : Int) u) :
    ∃ t1 t2, vs = [.int (x.toNat : Int) t1, .int (y.toNat : Int) t2] := by
  match vs, hl with
  | [v1, v2], _ =>
    obtain ⟨c1, u1, e1, rfl⟩ := h 0 v1 rfl
    obtain ⟨c2, u2, e2, rfl⟩ := h 1 v2 rfl
    cases e1
    cases e2
    exact ⟨u1, u2, rfl⟩
theorem paired_two {F : Value → Value → Prop} {a b : Value} {ys : List Value} (h : Paired F [a, b] ys) : ∃ y z, ys = [y, z] ∧ F a y ∧ F b z := by
  cases h with
  | cons h1 t =>
    cases t with
    | cons h2 t =>
      cases t
      exact ⟨_, _, rfl, h1, h2⟩
local macro_rules | `(tactic| walk_at "call ref") => `(tactic| (k_here; (with_reducible show wpAny _ _ (call (Value.ref 222) _ _) _ _ _); k_dflt (refine' joined ?kX ?kT ?kD ?kU ?h0 ?h1 ?h2 ?h3 ?h4 ?h5 ?h6 ?_; (case kX => k_in); (case kT => walk_at "htop"); (case kD => walk_at "hroom"); (case kU => walk_at "hroom"); (case h0 => assumption); (case h1 => assumption); (case h2 => exact Fr.keep (by assumption)); (case h3 => exact news_none (by assumption) (by k_mem)); (case h4 => exact news_at (by assumption) (by k_mem)); (case h5 => (first | assumption | omega)); (case h6 => (first | assumption | omega)); k_whole); walk_at "hbehind"))
set_option maxRecDepth 100000 in
set_option maxHeartbeats 4000000 in
theorem dispunits : ∀ {w : World} {mean : ExcName → Option Value} {mg mb : Str → Option Value} {s : Shared} {dp un : Nat} {fr : Option (List Env)} {gd : Option (List Code)} {Q : Value → Shared → Prop} {E : Value → Shared → Prop} {sh d : Addr} {q : HK} {vp : Value} {n : Nat} {x y : UInt8} {tk : Nat} {u i r : Int} {neg : Bool},
   (Mine.hd.heap_39 w.params).In s.heap → Top Mine.hd.view_39 LL mean mg mb s.heap → dp + 3 < recursionLimit → un + 74 < cLine →
   (NumAt s.heap sh d q vp n) →
   (sig (y.toNat : Int) i neg) →
   (u = (x.toNat : Int) - 48 ∧ 0 ≤ u ∧ u ≤ 9) →
   (r = if neg then 0 - (10 * u + i) else 10 * u + i) →
   (∀ h' tk' (tt : Nat), Ext s.heap h' → Q (.int r tt) { s with heap := h', toks := tk' }) →
   wpAny (model Challenge.rw_pc0145_01.row.prog w) ⟨none, dp, fr, gd, un⟩ (call (.ref 234) [.ref sh, .bytes #[x, y] tk]) Q E s := by
  k_fill
  intro w mean mg mb s dp un fr gd Q E sh d q vp n x y tk u i r neg X T hd hu H0 H1 H2 H3 hQ
  have hi : 0 ≤ i ∧ i ≤ 9 := by rcases H1 with ⟨_, rfl, _⟩ | ⟨_, rfl, _⟩ | ⟨_, rfl, _⟩ | ⟨_, rfl, _⟩ <;> decide
  obtain ⟨hux, hu0, hu9⟩ := H2
  k_dflt cell_enter
  (try k_fold)
  (repeat' (first | (fail_if_success (with_reducible show wpAny _ _ (eval (Expr.ListComp _ _ _ _) _) _ _ _)); (first | (k_unfold; (try dsimp only)) | (k_end; wrow_close) | walk1 | (dsimp only; walk1) | (leave1; walk_say "STEP leave1"; try dsimp only)) | fail "no step"))
  ((with_unfolding_all refine' comp_B ?hhx10 ?hclosx10 ?hcellx10 ?hkindx10 ?hnamesx10 ?hxx10 ?_ ?hsx10; (case hhx10 => rfl); (case hclosx10 => with_unfolding_all rfl); (case hcellx10 => decide); (case hkindx10 => with_unfolding_all rfl); (case hnamesx10 => decide); (case hxx10 => with_unfolding_all rfl); (case hsx10 => intro _; with_unfolding_all rfl)))
  k_steps
  (rename News _ _ _ _ => N9)
  (rename Fr _ _ _ _ => F9)
  with_unfolding_all refine' cfb_intro (fun _ => true) (fun v y => ∃ k t t', v = .int k t ∧ y = .int (k - 48) t') ?g2 F9 N9 ?g3 ?g4 ?g5
  (case g2 => exact (by decide : 2 ≤ sizeLine))
  (case g3 =>
    intro C v c u s₂ m₂ E' hv' hv F2 N2 hE2
    subst hv
    k_steps
    all_goals (try (((try dsimp only); (repeat (k_unfold; (try dsimp only))))))
    all_goals (first | (exact ⟨_, _, rfl, fun b o e => by repeat (first | exact e | refine Heap.get?_push_of_some _ ?_ | assumption | (rename Ext _ _ => hx'; first | exact hx' _ _ e | (refine hx' _ _ ?_; clear hx') | clear hx'))⟩) | (first | exact (0 : Nat) | exact Str.ofString "" | exact Value.none | exact ([] : List (Str × Addr))) | exact ⟨rfl, _, _, rfl, fun b o e => e⟩))
  (case g4 =>
    intro C v c u s₂ m₂ E' hv' hv hp' F2 N2 hE2
    subst hv
    k_steps
    all_goals (try (((try dsimp only); (repeat (k_unfold; (try dsimp only))))))
    all_goals (first | (exact ⟨_, _, rfl, fun b o e => by repeat (first | exact e | refine Heap.get?_push_of_some _ ?_ | assumption | (rename Ext _ _ => hx'; first | exact hx' _ _ e | (refine hx' _ _ ?_; clear hx') | clear hx'))⟩) | (first | exact (0 : Nat) | exact Str.ofString "" | exact Value.none | exact ([] : List (Str × Addr))) | exact ⟨_, _, _, rfl, rfl⟩))
  (case g5 =>
    intro D' ys vs n h'' tk'' hvl hvs hE3 hDn F3 N3 hP
    obtain ⟨t1, t2, rfl⟩ := two_ints hvl hvs
    obtain ⟨y1, y2, rfl, ⟨k1, a1, a2, e1, rfl⟩, ⟨k2, b1, b2, e2, rfl⟩⟩ := paired_two hP
    cases e1
    cases e2
    k_steps
    · (((try dsimp only); (repeat (k_unfold; (try dsimp only)))))
      refine' q_end (hQ _ _ ?tt (Fr.keep (by assumption))) ?e
      case e =>
        refine int_eq ?_
        rw [H3]
        first | rw [if_pos (by assumption)] | rw [if_neg (by first | assumption | simp_all)]
        omega
    · (((try dsimp only); (repeat (k_unfold; (try dsimp only)))))
      refine' q_end (hQ _ _ ?tt2 (Fr.keep (by assumption))) ?e2
      case e2 =>
        refine int_eq ?_
        rw [H3]
        first | rw [if_pos (by assumption)] | rw [if_neg (by first | assumption | simp_all)]
        omega)
local macro_rules | `(tactic| walk_at "call ref") => `(tactic| (k_here; (with_reducible show wpAny _ _ (call (Value.ref 234) _ _) _ _ _); k_dflt (refine' dispunits ?kX ?kT ?kD ?kU ?h0 ?h1 ?h2 ?h3 ?_; (case kX => k_in); (case kT => walk_at "htop"); (case kD => walk_at "hroom"); (case kU => walk_at "hroom"); (case h0 => walk_at "hnum"); (case h1 => assumption); (case h2 => assumption); (case h3 => assumption); k_whole); walk_at "hbehind"))
set_option maxRecDepth 100000 in
set_option maxHeartbeats 4000000 in
theorem hasunits : ∀ {w : World} {mean : ExcName → Option Value} {mg mb : Str → Option Value} {s : Shared} {dp un : Nat} {fr : Option (List Env)} {gd : Option (List Code)} {Q : Value → Shared → Prop} {E : Value → Shared → Prop} {sh d : Addr} {q : HK} {vp : Value} {n : Nat},
   (Mine.hd.heap_39 w.params).In s.heap → Top Mine.hd.view_39 LL mean mg mb s.heap → dp + 1 < recursionLimit → un + 58 < cLine →
   (NumAt s.heap sh d q vp n) →
   (∀ h' tk' (tt : Nat), Ext s.heap h' → Q (.bool true) { s with heap := h', toks := tk' }) →
   wpAny (model Challenge.rw_pc0145_01.row.prog w) ⟨none, dp, fr, gd, un⟩ (call (.ref 122) [.ref sh]) Q E s := by
  k_fill
  intro w mean mg mb s dp un fr gd Q E sh d q vp n X T hd hu H0 hQ
  k_dflt cell_enter
  (try k_fold)
  k_steps
  all_goals ((((try dsimp only); (repeat (k_unfold; (try dsimp only))))); (try (first | (refine' q_end (hQ _ _ _ ?e1) ?e2; (case e2 => (first | rfl | (refine congrArg Value.bool ?_; first | rfl | decide +kernel | (simp; done)) | (refine congrArg₂ Value.int ?_ rfl; first | rfl | omega | decide +kernel | (simp; done) | (simp; omega)) | (refine congrArg₂ Value.bytes ?_ rfl; first | rfl | decide +kernel | (simp; done)))); (case e1 => (exact Fr.keep (by assumption)))) | (refine' q_end (hQ _ _ 0 ?e1) ?e2; (case e2 => (first | rfl | (refine congrArg Value.bool ?_; first | rfl | decide +kernel | (simp; done)) | (refine congrArg₂ Value.int ?_ rfl; first | rfl | omega | decide +kernel | (simp; done) | (simp; omega)) | (refine congrArg₂ Value.bytes ?_ rfl; first | rfl | decide +kernel | (simp; done)))); (case e1 => (exact Fr.keep (by assumption)))))))

  all_goals exact (0 : Nat)
set_option maxRecDepth 100000 in
set_option maxHeartbeats 4000000 in
theorem hasunitsT : ∀ {w : World} {mean : ExcName → Option Value} {mg mb : Str → Option Value} {s : Shared} {dp un : Nat} {fr : Option (List Env)} {gd : Option (List Code)} {Q : Value → Shared → Prop} {E : Value → Shared → Prop} {sh d : Addr} {q : HK} {vp : Value} {n : Nat},
   (Mine.hd.heap_39 w.params).In s.heap → Top Mine.hd.view_39 LL mean mg mb s.heap → dp + 1 < recursionLimit → un + 58 < cLine →
   (TxtAt s.heap sh d q vp n) →
   (∀ h' tk' (tt : Nat), Ext s.heap h' → Q (.bool false) { s with heap := h', toks := tk' }) →
   wpAny (model Challenge.rw_pc0145_01.row.prog w) ⟨none, dp, fr, gd, un⟩ (call (.ref 122) [.ref sh]) Q E s := by
  k_fill
  intro w mean mg mb s dp un fr gd Q E sh d q vp n X T hd hu H0 hQ
  k_dflt cell_enter
  (try k_fold)
  k_steps
  all_goals ((((try dsimp only); (repeat (k_unfold; (try dsimp only))))); (try (first | (refine' q_end (hQ _ _ _ ?e1) ?e2; (case e2 => (first | rfl | (refine congrArg Value.bool ?_; first | rfl | decide +kernel | (simp; done)) | (refine congrArg₂ Value.int ?_ rfl; first | rfl | omega | decide +kernel | (simp; done) | (simp; omega)) | (refine congrArg₂ Value.bytes ?_ rfl; first | rfl | decide +kernel | (simp; done)))); (case e1 => (exact Fr.keep (by assumption)))) | (refine' q_end (hQ _ _ 0 ?e1) ?e2; (case e2 => (first | rfl | (refine congrArg Value.bool ?_; first | rfl | decide +kernel | (simp; done)) | (refine congrArg₂ Value.int ?_ rfl; first | rfl | omega | decide +kernel | (simp; done) | (simp; omega)) | (refine congrArg₂ Value.bytes ?_ rfl; first | rfl | decide +kernel | (simp; done)))); (case e1 => (exact Fr.keep (by assumption)))))))

  all_goals exact (0 : Nat)
local macro_rules | `(tactic| walk_at "call ref") => `(tactic| (k_here; (with_reducible show wpAny _ _ (call (Value.ref 122) _ _) _ _ _); k_dflt (refine' hasunitsT ?kX ?kT ?kD ?kU ?h0 ?_; (case kX => k_in); (case kT => walk_at "htop"); (case kD => walk_at "hroom"); (case kU => walk_at "hroom"); (case h0 => walk_at "hnum"); k_whole); walk_at "hbehind"))
local macro_rules | `(tactic| walk_at "call ref") => `(tactic| (k_here; (with_reducible show wpAny _ _ (call (Value.ref 122) _ _) _ _ _); k_dflt (refine' hasunits ?kX ?kT ?kD ?kU ?h0 ?_; (case kX => k_in); (case kT => walk_at "htop"); (case kD => walk_at "hroom"); (case kU => walk_at "hroom"); (case h0 => walk_at "hnum"); k_whole); walk_at "hbehind"))
set_option maxRecDepth 100000 in
set_option maxHeartbeats 4000000 in
theorem unitsin : ∀ {w : World} {mean : ExcName → Option Value} {mg mb : Str → Option Value} {s : Shared} {dp un : Nat} {fr : Option (List Env)} {gd : Option (List Code)} {Q : Value → Shared → Prop} {E : Value → Shared → Prop} {sh d : Addr} {q : HK} {vp : Value} {n : Nat} {x y : UInt8} {tk : Nat} {u i r : Int} {neg : Bool},
   (Mine.hd.heap_39 w.params).In s.heap → Top Mine.hd.view_39 LL mean mg mb s.heap → dp + 4 < recursionLimit → un + 82 < cLine →
   (NumAt s.heap sh d q vp n) →
   (sig (y.toNat : Int) i neg) →
   (u = (x.toNat : Int) - 48 ∧ 0 ≤ u ∧ u ≤ 9) →
   (r = if neg then 0 - (10 * u + i) else 10 * u + i) →
   (∀ h' tk' (tt : Nat), Ext s.heap h' → Q (.int r tt) { s with heap := h', toks := tk' }) →
   wpAny (model Challenge.rw_pc0145_01.row.prog w) ⟨none, dp, fr, gd, un⟩ (call (.ref 255) [.ref sh, .bytes #[x, y] tk]) Q E s := by
  k_fill
  intro w mean mg mb s dp un fr gd Q E sh d q vp n x y tk u i r neg X T hd hu H0 H1 H2 H3 hQ
  k_dflt cell_enter
  (try k_fold)
  k_steps
  · (rename (_ ≠ _) => a9)
    exact absurd rfl a9
  · (((try dsimp only); (repeat (k_unfold; (try dsimp only)))))
    refine' q_end (hQ _ _ ?tt (Fr.keep (by assumption))) ?e
    case e => rfl
local macro_rules | `(tactic| walk_at "call ref") => `(tactic| (k_here; (with_reducible show wpAny _ _ (call (Value.ref 255) _ _) _ _ _); k_dflt (refine' unitsin ?kX ?kT ?kD ?kU ?h0 ?h1 ?h2 ?h3 ?_; (case kX => k_in); (case kT => walk_at "htop"); (case kD => walk_at "hroom"); (case kU => walk_at "hroom"); (case h0 => walk_at "hnum"); (case h1 => assumption); (case h2 => assumption); (case h3 => assumption); k_whole); walk_at "hbehind"))
def dec (a b : UInt8) (w : Int) : Prop := (a = 48 ∧ b = 74 ∧ w = -1) ∨ (a = 48 ∧ b = 65 ∧ w = 1) ∨ (a = 48 ∧ b = 123 ∧ w = 0) ∨ (a = 49 ∧ b = 125 ∧ w = -10)
/-- a row: its text, the two octets of its number, its own octet; the number -/
structure Row where
  t : UInt8
  a : UInt8
  b : UInt8
  n : UInt8
  w : Int
  ok : dec a b w
def Row.oct (r : Row) : Array UInt8 := #[r.t, r.a, r.b, r.n]
theorem dec_sig {a b : UInt8} {w : Int} (h : dec a b w) : ∃ i neg, sig (b.toNat : Int) i neg ∧ (((a.toNat : Int) - 48 = (a.toNat : Int) - 48) ∧ 0 ≤ (a.toNat : Int) - 48 ∧ (a.toNat : Int) - 48 ≤ 9) ∧ w = if neg then 0 - (10 * ((a.toNat : Int) - 48) + i) else 10 * ((a.toNat : Int) - 48) + i := by
  rcases h with ⟨rfl, rfl, rfl⟩ | ⟨rfl, rfl, rfl⟩ | ⟨rfl, rfl, rfl⟩ | ⟨rfl, rfl, rfl⟩
  · exact ⟨1, true, .inl ⟨rfl, rfl, rfl⟩, by decide, by decide⟩
  · exact ⟨1, false, .inr (.inl ⟨rfl, rfl, rfl⟩), by decide, by decide⟩
  · exact ⟨0, false, .inr (.inr (.inl ⟨rfl, rfl, rfl⟩)), by decide, by decide⟩
  · exact ⟨0, true, .inr (.inr (.inr ⟨rfl, rfl, rfl⟩)), by decide, by decide⟩
section
variable {prog : Program} {w : World} {A : Around} {E : Value → Shared → Prop} {s : Shared} {value slice : PySem.Expr} {b : Array UInt8} {t : Tok} {h₀ : Heap} {L : Addr} {m : PySem.Str → Option Value} {news : List (Addr × Obj)} {l u : Value} {lo hi : Option Int} {Q : Value → Shared → Prop}
theorem bslice (hF : Fr h₀ L s.heap m) (hN : News h₀ L s.heap news) (hl : IsPart l lo) (hu : IsPart u hi) (hz : b.size ≤ 16777216)
    (h : ∀ h' t' k, Fr h₀ L h' m → News h₀ L h' news → Q (.bytes (KBy.picked b lo hi) t') { s with heap := h', toks := k })
    (hs : subscripted slice false (.bytes b t) (.ref s.heap.objs.size) = operate [.ref s.heap.objs.size, .bytes b t] (getItem (.bytes b t) (.ref s.heap.objs.size)) := by with_unfolding_all rfl)
    (ht : ∀ r, letTemporaryGo value (.bytes b t) r = pure () := by intro _; with_unfolding_all rfl) :
    wpAny (model prog w) A (subscriptTail value slice (.bytes b t) (.ref s.heap.objs.size)) Q E { s with heap := s.heap.push { cls := .type "slice", data := .fields #[l, u, .none] } } :=
  KBc.slice_K hF hN rfl hl hu (by rw [KBw.ints_length]; exact hz) (fun h' t' k F N _ => h h' t' k F N) hs ht
end
local macro_rules | `(tactic| walk_at "subscriptTail") => `(tactic| (k_here; (with_reducible show wpAny _ _ (subscriptTail _ (Expr.Slice _ _ none _) (Value.bytes _ _) (Value.ref _)) _ _ _); (with_reducible rename Fr _ _ _ _ => F'); (with_reducible rename News _ _ _ _ => N'); (refine bslice (s := ⟨_, _, _, _, _⟩) F' N' (by constructor) (by constructor) (by first | exact (by decide : (1 : Nat) ≤ 16777216) | exact (by decide : (2 : Nat) ≤ 16777216) | exact (by decide : (3 : Nat) ≤ 16777216) | exact (by decide : (4 : Nat) ≤ 16777216)) ?_); intro _ _ _ _ _))
set_option maxRecDepth 100000 in
set_option maxHeartbeats 4000000 in
theorem kw0 : ∀ {w : World} {mean : ExcName → Option Value} {mg mb : Str → Option Value} {s : Shared} {dp un : Nat} {fr : Option (List Env)} {gd : Option (List Code)} {Q : Value → Shared → Prop} {E : Value → Shared → Prop} {sh d : Addr} {q : HK} {vp : Value} {n tr tp : Nat} {k : Addr} {asc : Bool} {r : Row},
   (Mine.hd.heap_39 w.params).In s.heap → Top Mine.hd.view_39 LL mean mg mb s.heap → dp + 6 < recursionLimit → un + 98 < cLine →
   (TxtAt s.heap sh d q vp n) →
   (IsTup s.heap k #[.bool asc, .int 0 tp, .ref sh]) →
   (∀ h' tk' (tt : Nat), Ext s.heap h' → Q (.bytes #[r.t] tt) { s with heap := h', toks := tk' }) →
   wpAny (model Challenge.rw_pc0145_01.row.prog w) ⟨none, dp, fr, gd, un⟩ (call (.ref 262) [.bytes r.oct tr, .ref k]) Q E s := by
  k_fill
  intro w mean mg mb s dp un fr gd Q E sh d q vp n tr tp k asc r X T hd hu H0 H1 hQ
  obtain ⟨rt, ra, rb, rn, rw, rok⟩ := r
  simp only [Row.oct]
  k_dflt cell_enter
  (try k_fold)
  k_steps
  (((try dsimp only); (repeat (k_unfold; (try dsimp only)))))
  refine' q_end (hQ _ _ ?tt (Fr.keep (by assumption))) ?e
  case e => exact bytes_eq rfl
set_option maxRecDepth 100000 in
set_option maxHeartbeats 4000000 in
theorem kw1 : ∀ {w : World} {mean : ExcName → Option Value} {mg mb : Str → Option Value} {s : Shared} {dp un : Nat} {fr : Option (List Env)} {gd : Option (List Code)} {Q : Value → Shared → Prop} {E : Value → Shared → Prop} {sh d : Addr} {q : HK} {vp : Value} {n tr tp : Nat} {k : Addr} {asc : Bool} {r : Row},
   (Mine.hd.heap_39 w.params).In s.heap → Top Mine.hd.view_39 LL mean mg mb s.heap → dp + 6 < recursionLimit → un + 98 < cLine →
   (NumAt s.heap sh d q vp n) →
   (IsTup s.heap k #[.bool asc, .int 1 tp, .ref sh]) →
   (∀ h' tk' (tt : Nat), Ext s.heap h' → Q (.int r.w tt) { s with heap := h', toks := tk' }) →
   wpAny (model Challenge.rw_pc0145_01.row.prog w) ⟨none, dp, fr, gd, un⟩ (call (.ref 262) [.bytes r.oct tr, .ref k]) Q E s := by
  k_fill
  intro w mean mg mb s dp un fr gd Q E sh d q vp n tr tp k asc r X T hd hu H0 H1 hQ
  obtain ⟨rt, ra, rb, rn, rw, rok⟩ := r
  simp only [Row.oct]
  obtain ⟨i, neg, hs1, hs2, hs3⟩ := dec_sig rok
  k_dflt cell_enter
  (try k_fold)
  k_steps
  (((try dsimp only); (repeat (k_unfold; (try dsimp only)))))
  refine' q_end (hQ _ _ ?tt (Fr.keep (by assumption))) ?e
  case e => rfl
-- G3
structure KeyD where
  k : Addr
  asc : Bool
  num : Bool
def KeyOk (h : Heap) (k : KeyD) : Prop := ∃ sh tp, IsTup h k.k #[.bool k.asc, .int (if k.num then 1 else 0) tp, .ref sh] ∧ (if k.num then IsNum h sh else IsTxt h sh)
def KeysAt (h : Heap) (l : Addr) (ks : List KeyD) : Prop := h.IsList l (ks.map fun k => Value.ref k.k).toArray ∧ ∀ k ∈ ks, KeyOk h k
def kv (k : Bool) (r : Row) : Int := if k then r.w else (r.t.toNat : Int)
theorem drop_step {α β : Type} {f : α → β} {ks : List α} {i : Nat} {k : α} (h : ks[i]? = some k) : (ks.map f).drop i = f k :: (ks.map f).drop (i + 1) := by
  obtain ⟨hl, e⟩ := List.getElem?_eq_some_iff.mp h
  rw [List.drop_eq_getElem_cons (by simpa using hl)]
  simp [e]
def aheadL : List (Bool × Bool) → Row → Row → Bool
  | [], _, _ => false
  | k :: ks, x, y => if kv k.2 x = kv k.2 y then aheadL ks x y else (decide (kv k.2 x < kv k.2 y) == k.1)
theorem b_ne {x y : UInt8} (h : (#[x].toList != #[y].toList) = true) : ¬ (x.toNat : Int) = (y.toNat : Int) := by
  intro e
  have e' : x = y := UInt8.toNat_inj.mp (by omega)
  subst e'
  simp at h
theorem b_eq {x y : UInt8} (h : (#[x].toList != #[y].toList) = false) : (x.toNat : Int) = (y.toNat : Int) := by
  have : x = y := by simpa using h
  rw [this]
theorem b_lt (a b : Nat) : decide (a < b) = decide ((a : Int) < (b : Int)) := by simp
theorem ah_ne {ks : List KeyD} {i : Nat} {k : KeyD} {r r2 : Row} {a b : Int} (hki : ks[i]? = some k) (hJ : aheadL ((ks.map fun k => (k.asc, k.num)).drop i) r r2 = aheadL (ks.map fun k => (k.asc, k.num)) r r2)
    (ha : kv k.num r = a) (hb : kv k.num r2 = b) (h : ¬ a = b) : (decide (a < b) == k.asc) = aheadL (ks.map fun k => (k.asc, k.num)) r r2 := by
  rw [← hJ, drop_step hki, aheadL]
  dsimp only
  rw [ha, hb, if_neg h]
theorem ah_eq {ks : List KeyD} {i : Nat} {k : KeyD} {r r2 : Row} {a b : Int} (hki : ks[i]? = some k) (hJ : aheadL ((ks.map fun k => (k.asc, k.num)).drop i) r r2 = aheadL (ks.map fun k => (k.asc, k.num)) r r2)
    (ha : kv k.num r = a) (hb : kv k.num r2 = b) (h : a = b) : aheadL ((ks.map fun k => (k.asc, k.num)).drop (i + 1)) r r2 = aheadL (ks.map fun k => (k.asc, k.num)) r r2 := by
  rw [← hJ, drop_step hki, aheadL]
  dsimp only
  rw [ha, hb, if_pos h]
local macro_rules | `(tactic| walk_at "htup") => `(tactic| first | assumption | exact Fr.tup (by assumption) (by assumption))
local macro_rules | `(tactic| walk_at "call ref") => `(tactic| (k_here; (with_reducible show wpAny _ _ (call (Value.ref 262) _ _) _ _ _); k_dflt (refine' kw0 ?kX ?kT ?kD ?kU ?h0 ?h1 ?_; (case kX => k_in); (case kT => walk_at "htop"); (case kD => walk_at "hroom"); (case kU => walk_at "hroom"); (case h0 => walk_at "hnum"); (case h1 => walk_at "htup"); k_whole); walk_at "hbehind"))
local macro_rules | `(tactic| walk_at "call ref") => `(tactic| (k_here; (with_reducible show wpAny _ _ (call (Value.ref 262) _ _) _ _ _); k_dflt (refine' kw1 ?kX ?kT ?kD ?kU ?h0 ?h1 ?_; (case kX => k_in); (case kT => walk_at "htop"); (case kD => walk_at "hroom"); (case kU => walk_at "hroom"); (case h0 => walk_at "hnum"); (case h1 => walk_at "htup"); k_whole); walk_at "hbehind"))
set_option maxRecDepth 100000 in
set_option maxHeartbeats 4000000 in
theorem goesahead : ∀ {w : World} {mean : ExcName → Option Value} {mg mb : Str → Option Value} {s : Shared} {dp un : Nat} {fr : Option (List Env)} {gd : Option (List Code)} {Q : Value → Shared → Prop} {E : Value → Shared → Prop} {tr ts : Nat} {l : Addr} {ks : List KeyD} {r r2 : Row},
   (Mine.hd.heap_39 w.params).In s.heap → Top Mine.hd.view_39 LL mean mg mb s.heap → dp + 8 < recursionLimit → un + 114 < cLine →
   (KeysAt s.heap l ks) →
   (∀ h' tk' (tt : Nat), Ext s.heap h' → Q (.bool (aheadL (ks.map fun k => (k.asc, k.num)) r r2)) { s with heap := h', toks := tk' }) →
   wpAny (model Challenge.rw_pc0145_01.row.prog w) ⟨none, dp, fr, gd, un⟩ (call (.ref 269) [.bytes r.oct tr, .bytes r2.oct ts, .ref l]) Q E s := by
  k_fill
  intro w mean mg mb s dp un fr gd Q E tr ts l ks r r2 X T hd hu H0 hQ
  obtain ⟨hl, hk⟩ := H0
  k_dflt cell_enter
  (try k_fold)
  k_steps
  with_unfolding_all refine' For_invVF (by assumption) ?k1 ?k2 ?_
  (case k1 => exact rfl)
  (case k2 => exact rfl)
  k_steps
  with_unfolding_all refine' iter_vals [Str.ofString "first", Str.ofString "second"] (fun i => aheadL ((ks.map fun k => (k.asc, k.num)).drop i) r r2 = aheadL (ks.map fun k => (k.asc, k.num)) r r2) rfl hl (by assumption) rfl ?_ ?_
  · intro i v h tk u own hv hJ F1 N1
    obtain ⟨k, hki, rfl⟩ : ∃ k, ks[i]? = some k ∧ v = Value.ref k.k := by
      rw [List.getElem?_map] at hv
      cases e : ks[i]? with
      | none => rw [e] at hv; cases hv
      | some k => rw [e] at hv; exact ⟨k, rfl, (Option.some.inj hv).symm⟩
    obtain ⟨sh, tp, htup, hsh⟩ := hk k (List.mem_of_getElem? hki)
    obtain ⟨ka, kasc, knum⟩ := k
    cases knum with
    | true =>
      obtain ⟨d, q, vp, n, hnum⟩ : IsNum s.heap sh := hsh
      simp only [if_true] at htup
      (try k_fold)
      k_steps
      · (((((try dsimp only); (repeat (k_unfold; (try dsimp only))))); (try dsimp only [VPost]); (((try dsimp only); (repeat (k_unfold; (try dsimp only)))))))
        rename_i hne
        refine' q_end (hQ _ _ 0 ?e1) ?e2
        (case e1 => (exact Fr.keep (by assumption)))
        (case e2 => exact congrArg Value.bool (ah_ne hki hJ rfl rfl hne))
      · (((((try dsimp only); (repeat (k_unfold; (try dsimp only))))); (refine' vpost_next ?vFx36 ?vNx36 ?vnx36 ?vmx36 ?vjx36; (case vFx36 => assumption); (case vNx36 => assumption); (case vnx36 => (intro p hp; k_ownIn)); (case vmx36 => ((intro z h2 h3; first | rfl | (simp only [List.contains_cons, List.contains_nil, Bool.or_false, Bool.or_eq_false_iff, beq_eq_false_iff_ne, ne_eq] at h3; simp [h2, h3]; done)))))))
        rename_i he
        exact ah_eq hki hJ rfl rfl he
    | false =>
      obtain ⟨d, q, vp, n, hnum⟩ : IsTxt s.heap sh := hsh
      simp only [Bool.false_eq_true, if_false] at htup
      (try k_fold)
      k_steps
      · (((((try dsimp only); (repeat (k_unfold; (try dsimp only))))); (try dsimp only [VPost]); (((try dsimp only); (repeat (k_unfold; (try dsimp only)))))))
        rename_i hne
        refine' q_end (hQ _ _ 0 ?e1) ?e2
        (case e1 => (exact Fr.keep (by assumption)))
        (case e2 => (rw [b_lt]; exact congrArg Value.bool (ah_ne (a := (r.t.toNat : Int)) (b := (r2.t.toNat : Int)) hki hJ rfl rfl (b_ne hne))))
      · (((((try dsimp only); (repeat (k_unfold; (try dsimp only))))); (refine' vpost_next ?vFx43 ?vNx43 ?vnx43 ?vmx43 ?vjx43; (case vFx43 => assumption); (case vNx43 => assumption); (case vnx43 => (intro p hp; k_ownIn)); (case vmx43 => ((intro z h2 h3; first | rfl | (simp only [List.contains_cons, List.contains_nil, Bool.or_false, Bool.or_eq_false_iff, beq_eq_false_iff_ne, ne_eq] at h3; simp [h2, h3]; done)))))))
        rename_i he
        exact ah_eq (a := (r.t.toNat : Int)) (b := (r2.t.toNat : Int)) hki hJ rfl rfl (b_eq he)
  · intro u h tk hJ F1 N1
    k_steps
    (((((try dsimp only); (repeat (k_unfold; (try dsimp only))))); (try dsimp only [VPost]); (((try dsimp only); (repeat (k_unfold; (try dsimp only)))))))
    refine' q_end (hQ _ _ 0 ?e1) ?e2
    (case e1 => (exact Fr.keep (by assumption)))
    (case e2 => (refine congrArg Value.bool ?_; rw [← hJ, List.drop_of_length_le (by simp)]; rfl))
-- G4
inductive RowsAre : List Value → List Row → Prop
  | nil : RowsAre [] []
  | cons {r : Row} {t : Tok} {vs : List Value} {rs : List Row} : RowsAre vs rs → RowsAre (.bytes r.oct t :: vs) (r :: rs)
theorem RowsAre.length {vs : List Value} {rs : List Row} (h : RowsAre vs rs) : vs.length = rs.length := by
  induction h with
  | nil => rfl
  | cons _ ih => simp [ih]
theorem RowsAre.get {vs : List Value} {rs : List Row} (h : RowsAre vs rs) : ∀ {i : Nat} {r : Row}, rs[i]? = some r → ∃ t, vs[i]? = some (.bytes r.oct t) := by
  induction h with
  | nil => intro i r e; simp at e
  | cons _ ih =>
    intro i r e
    cases i with
    | zero => simp at e; subst e; exact ⟨_, rfl⟩
    | succ i => simpa using ih (by simpa using e)
theorem RowsAre.append {vs ws : List Value} {rs qs : List Row} (h : RowsAre vs rs) (k : RowsAre ws qs) : RowsAre (vs ++ ws) (rs ++ qs) := by
  induction h with
  | nil => exact k
  | cons _ ih => exact .cons ih
theorem RowsAre.drop {vs : List Value} {rs : List Row} (h : RowsAre vs rs) : ∀ i, RowsAre (vs.drop i) (rs.drop i) := by
  induction h with
  | nil => intro i; simpa using RowsAre.nil
  | cons h' ih =>
    intro i
    cases i with
    | zero => exact .cons h'
    | succ i => simpa using ih i
def mergeL (lt : Row → Row → Bool) : List Row → List Row → List Row
  | [], ys => ys
  | x :: xs, [] => x :: xs
  | x :: xs, y :: ys => if lt y x then y :: mergeL lt (x :: xs) ys else x :: mergeL lt xs (y :: ys)
  termination_by xs ys => xs.length + ys.length
abbrev spec (ks : List KeyD) : Row → Row → Bool := aheadL (ks.map fun k => (k.asc, k.num))
theorem keysAt_fr {h h' : Heap} {l : Addr} {ks : List KeyD} (x : Ext h h') (H : KeysAt h l ks) : KeysAt h' l ks := by
  refine ⟨H.1.at fun o e => x _ _ e, fun k hk => ?_⟩
  obtain ⟨sh, tp, ht, hs⟩ := H.2 k hk
  refine ⟨sh, tp, IsTup.keeps ht x, ?_⟩
  cases hn : k.num with
  | true =>
    rw [hn] at hs
    obtain ⟨d, q, vp, n, I⟩ : IsNum h sh := hs
    exact ⟨d, q, vp, n, inst_ext x I⟩
  | false =>
    rw [hn] at hs
    obtain ⟨d, q, vp, n, I⟩ : IsTxt h sh := hs
    exact ⟨d, q, vp, n, inst_ext x I⟩
local macro_rules | `(tactic| walk_at "hkeys") => `(tactic| first | assumption | exact keysAt_fr (Fr.keep (by assumption)) (by assumption))
local macro_rules | `(tactic| walk_at "call ref") => `(tactic| (k_here; (with_reducible show wpAny _ _ (call (Value.ref 269) _ _) _ _ _); k_dflt (refine' goesahead ?kX ?kT ?kD ?kU ?h0 ?_; (case kX => k_in); (case kT => walk_at "htop"); (case kD => walk_at "hroom"); (case kU => walk_at "hroom"); (case h0 => walk_at "hkeys"); k_whole); walk_at "hbehind"))
theorem merge_end {ks : List KeyD} {ra rb f : List Row} {i j : Nat} (h : f ++ mergeL (spec ks) (ra.drop i) (rb.drop j) = mergeL (spec ks) ra rb) (e : ra.length ≤ i ∨ rb.length ≤ j) : f ++ ra.drop i ++ rb.drop j = mergeL (spec ks) ra rb := by
  rw [← h]
  rcases e with e | e
  · rw [List.drop_of_length_le e, mergeL]; simp
  · rw [List.drop_of_length_le e]
    cases ra.drop i with
    | nil => rw [mergeL]; simp
    | cons x xs => rw [mergeL]; simp
theorem rows_end {ks : List KeyD} {ys va vb : List Value} {f ra rb : List Row} {i j : Nat} (h : RowsAre ys f) (ha : RowsAre va ra) (hb : RowsAre vb rb) (e : f ++ mergeL (spec ks) (ra.drop i) (rb.drop j) = mergeL (spec ks) ra rb) (hij : ra.length ≤ i ∨ rb.length ≤ j) :
    RowsAre (((ys.toArray.toList ++ (slicePick va.toArray (some (i : Int)) none none).toList).toArray.toList ++ (slicePick vb.toArray (some (j : Int)) none none).toList).toArray.toList) (mergeL (spec ks) ra rb) := by
  rw [← merge_end e hij]
  simp only [PySem.slicePick_from', List.toList_toArray]
  exact (h.append (ha.drop i)).append (hb.drop j)
structure MS where
  i : Nat
  j : Nat
  ys : List Value
  f : List Row
  n : Nat
  ta : Tok
  ts : Tok
def MInv (ks : List KeyD) (ra rb : List Row) (c : MS) : Prop := RowsAre c.ys c.f ∧ c.i ≤ ra.length ∧ c.j ≤ rb.length ∧ c.f.length = c.i + c.j ∧ c.f ++ mergeL (spec ks) (ra.drop c.i) (rb.drop c.j) = mergeL (spec ks) ra rb
theorem drop_cons {α : Type} {l : List α} {i : Nat} (h : i < l.length) : l.drop i = l[i] :: l.drop (i + 1) := List.drop_eq_getElem_cons h
theorem MInv.other {ks : List KeyD} {ra rb : List Row} {c : MS} (h : MInv ks ra rb c) (hi : c.i < ra.length) (hj : c.j < rb.length) (hs : spec ks (rb[c.j]'hj) (ra[c.i]'hi) = true) (t : Tok) (n ta ts : Nat) :
    MInv ks ra rb ⟨c.i, c.j + 1, c.ys ++ [.bytes (rb[c.j]'hj).oct t], c.f ++ [rb[c.j]'hj], n, ta, ts⟩ := by
  obtain ⟨h1, h2, h3, h4, h5⟩ := h
  refine ⟨h1.append (.cons .nil), h2, hj, by simp [h4]; omega, ?_⟩
  rw [← h5, drop_cons hi, drop_cons hj]
  conv => rhs; rw [mergeL]
  rw [if_pos hs]
  simp
theorem MInv.one {ks : List KeyD} {ra rb : List Row} {c : MS} (h : MInv ks ra rb c) (hi : c.i < ra.length) (hj : c.j < rb.length) (hs : spec ks (rb[c.j]'hj) (ra[c.i]'hi) = false) (t : Tok) (n ta ts : Nat) :
    MInv ks ra rb ⟨c.i + 1, c.j, c.ys ++ [.bytes (ra[c.i]'hi).oct t], c.f ++ [ra[c.i]'hi], n, ta, ts⟩ := by
  obtain ⟨h1, h2, h3, h4, h5⟩ := h
  refine ⟨h1.append (.cons .nil), hi, h3, by simp [h4]; omega, ?_⟩
  rw [← h5, drop_cons hi, drop_cons hj]
  conv => rhs; rw [mergeL]
  rw [if_neg (by rw [hs]; decide)]
  simp
theorem mp_next {ks : List KeyD} {ra rb : List Row} {c : MS} {h₀ h' : Heap} {L D : Addr} {s : Shared} {m₀ m' : Str → Option Value} {tk : Nat} {i' j' : Nat} {ys : List Value} {f : List Row} {n ta ts : Nat}
    (F : Fr h₀ L h' m') (N : News h₀ L h' [(D, listOf ys.toArray n)]) (hi : m' (Str.ofString "at") = some (.int (i' : Nat) ta)) (hj : m' (Str.ofString "spot") = some (.int (j' : Nat) ts))
    (hr : ∀ z, z ≠ Str.ofString "at" → z ≠ Str.ofString "spot" → m' z = m₀ z) (hinv : MInv ks ra rb ⟨i', j', ys, f, n, ta, ts⟩) (hm : ra.length + rb.length - (i' + j') < ra.length + rb.length - (c.i + c.j)) :
    KswEnd h₀ L s (fun c : MS => [(D, listOf c.ys.toArray c.n)]) (fun c => [(Str.ofString "at", .int c.i c.ta), (Str.ofString "spot", .int c.j c.ts)]) (MInv ks ra rb) [] m₀ (fun _ => True) (fun c => ra.length + rb.length - (c.i + c.j)) c { s with heap := h', toks := tk } := by
  refine ksw_end ⟨i', j', ys, f, n, ta, ts⟩ F N (fun p hp => hp) hinv ?_ ?_ trivial hm
  · intro p hp
    rcases List.mem_cons.mp hp with rfl | hp
    · exact hi
    · rw [List.mem_singleton.mp hp]; exact hj
  · intro z h1 _
    exact hr z (h1 _ (List.mem_cons_self ..)) (h1 _ (List.mem_cons_of_mem _ (List.mem_cons_self ..)))
section
variable {prog : Program} {w : World} {A : Around} {E : Value → Shared → Prop} {s : Shared} {env : Env} {h₀ : Heap} {x : Str} {body : List Stmt} {Q : Flow → Shared → Prop}
theorem while_mp {L D : Addr} {test : Expr} {pos : Pos} {m₀ : Str → Option Value} {news : List (Addr × Obj)} {t1 t2 : Tok} {k : Nat} (ks : List KeyD) (ra rb : List Row)
    (F : Fr h₀ L s.heap m₀) (N : News h₀ L s.heap news) (hm : (D, listOf #[] k) ∈ news) (hi : m₀ (Str.ofString "at") = some (.int 0 t1)) (hj : m₀ (Str.ofString "spot") = some (.int 0 t2))
    (turn : ∀ (c : MS) h tk, MInv ks ra rb c → Fr h₀ L h (kstB m₀ [(Str.ofString "at", .int c.i c.ta), (Str.ofString "spot", .int c.j c.ts)]) → News h₀ L h [(D, listOf c.ys.toArray c.n)] →
      wpAny (model prog w) A (isTrue test env (eval test env)) (fun b s₂ =>
        if b = true then wpAny (model prog w) A (execs body env) (KswPost h₀ L s (fun c : MS => [(D, listOf c.ys.toArray c.n)]) (fun c => [(Str.ofString "at", .int c.i c.ta), (Str.ofString "spot", .int c.j c.ts)]) (MInv ks ra rb) [] m₀ (fun _ => True) (fun c => ra.length + rb.length - (c.i + c.j)) Q c) E s₂ else Q .next s₂) E { s with heap := h, toks := tk })
    (hE : PassesOwn (model prog w) A env E := by passes_own) :
    wpAny (model prog w) A (exec (.While test body [] pos) env) Q E s := by
  refine ksw_while (fun c : MS => [(D, listOf c.ys.toArray c.n)]) (fun c => [(Str.ofString "at", .int c.i c.ta), (Str.ofString "spot", .int c.j c.ts)]) (MInv ks ra rb) [] (fun _ => True) (fun c => ra.length + rb.length - (c.i + c.j)) ⟨0, 0, [], [], k, t1, t2⟩ F
    (fun p hp => by rw [List.mem_singleton.mp hp]; exact N _ hm) ⟨.nil, Nat.zero_le _, Nat.zero_le _, rfl, rfl⟩ ?_ trivial ?_ hE
  · intro p hp
    rcases List.mem_cons.mp hp with rfl | hp
    · exact hi
    · rw [List.mem_singleton.mp hp]; exact hj
  · intro c u h tk hc _ F1 N1
    exact turn c h tk hc F1 N1
end
section
variable {prog : Program} {w : World} {A : Around} {E : Value → Shared → Prop} {s : Shared}
theorem isl_fr {h₀ h : Heap} {L l : Addr} {m : Str → Option Value} {vs : Array Value} (H : h₀.IsList l vs) (F : Fr h₀ L h m) : h.IsList l vs := H.at fun o e => F.keep l o e
theorem isl_news {h₀ h : Heap} {L l : Addr} {vs : Array Value} {n : Nat} {news : List (Addr × Obj)} (N : News h₀ L h news) (hm : (l, listOf vs n) ∈ news) : h.IsList l vs := ⟨_, (N _ hm).1, rfl, n, rfl⟩
theorem len_vals {l : Addr} {vs : List Value} {Q : Value → Shared → Prop} (hl : s.heap.IsList l vs.toArray) (hb : vs.length ≤ 100000)
    (h : Q (.int (vs.length : Nat) (s.toks + 1)) { s with toks := s.toks + 1 + 1 }) : wpAny (model prog w) A (call (.builtin "len") [.ref l]) Q E s := by
  refine Calls.call_len_list hl (by simp only [List.size_toArray]; omega) ?_
  simpa using h
theorem item_rows {value slice : Expr} {l : Addr} {vs : List Value} {rs : List Row} {j : Nat} {u : Tok} {Q : Value → Shared → Prop} (hl : s.heap.IsList l vs.toArray) (hr : RowsAre vs rs) (hj : j < rs.length) (hb : j < 2 ^ 62)
    (h : ∀ t, Q (.bytes (rs[j]'hj).oct t) s)
    (hs : subscripted slice false (.ref l) (.int (j : Int) u) = operate [.ref l, .int (j : Int) u] (getItem (.ref l) (.int (j : Int) u)) := by with_unfolding_all rfl) :
    wpAny (model prog w) A (subscriptTail value slice (.ref l) (.int (j : Int) u)) Q E s := by
  obtain ⟨t, ht⟩ := hr.get (i := j) (r := rs[j]'hj) (by simp [hj])
  exact tail_any hl.typeIs slot_list_getitem.lookup (wpAny_getItem_list hl (by omega) (by omega) (by simpa using ht) (h t)) hs
end
local macro_rules | `(tactic| walk_at "hlist") => `(tactic| first | assumption | exact isl_fr (by assumption) (by assumption) | exact isl_news (by assumption) (by k_mem))
local macro_rules | `(tactic| walk_at "call builtin:len") => `(tactic| (k_here; (with_reducible show wpAny _ _ (call (Value.builtin _) [Value.ref _]) _ _ _); (with_unfolding_all refine' len_vals ?k1 ?k2 ?_; (case k1 => walk_at "hlist"); (case k2 => (first | omega | ((have hq1 := RowsAre.length (by assumption)); omega))); k_whole)))
local macro_rules | `(tactic| walk_at "subscriptTail Name Name ref int") => `(tactic| ((with_reducible show wpAny _ _ (subscriptTail _ _ (Value.ref _) (Value.int _ _)) _ _ _); (with_unfolding_all refine' item_rows ?k1 ?k2 ?k3 ?k4 ?_; (case k1 => walk_at "hlist"); (case k2 => assumption); (case k3 => omega); (case k4 => omega); k_whole); intro _))
local macro_rules | `(tactic| walk_at "hsz") => `(tactic| (simp only [PySem.slicePick_from', sizeLine_eq, List.toList_toArray, List.length_append, List.length_drop]; omega))
local macro_rules | `(tactic| walk_at "binaryOp Add ref ref") => `(tactic| (k_here; (with_reducible show wpAny _ _ (binaryOp _ (Value.ref _) (Value.ref _)) _ _ _); k_dflt (refine' kmk_add_lit ?F ?N ?a ?b rfl ?_ ?z; (case F => k_asm); (case N => k_asm); (case a => walk_at "hlist"); (case b => walk_at "hlist"); (case z => walk_at "hsz")); intro D' h' F' N' l1; (try k_sweep)))
set_option maxRecDepth 100000 in
set_option maxHeartbeats 4000000 in
theorem mergedpair : ∀ {w : World} {mean : ExcName → Option Value} {mg mb : Str → Option Value} {s : Shared} {dp un : Nat} {fr : Option (List Env)} {gd : Option (List Code)} {Q : Value → Shared → Prop} {E : Value → Shared → Prop} {la lb l : Addr} {ks : List KeyD} {va vb : List Value} {ra rb : List Row},
   (Mine.hd.heap_39 w.params).In s.heap → Top Mine.hd.view_39 LL mean mg mb s.heap → dp + 10 < recursionLimit → un + 130 < cLine →
   (KeysAt s.heap l ks) →
   (s.heap.IsList la va.toArray) →
   (s.heap.IsList lb vb.toArray) →
   (RowsAre va ra) →
   (RowsAre vb rb) →
   (ra.length ≤ 1000) →
   (rb.length ≤ 1000) →
   (∀ h' tk' (tt : Nat) D ys n, Ext s.heap h' → s.heap.get? D = none → h'.get? D = some (listOf ys n) → RowsAre ys.toList (mergeL (spec ks) ra rb) → Q (.ref D) { s with heap := h', toks := tk' }) →
   wpAny (model Challenge.rw_pc0145_01.row.prog w) ⟨none, dp, fr, gd, un⟩ (call (.ref 276) [.ref la, .ref lb, .ref l]) Q E s := by
  k_fill
  intro w mean mg mb s dp un fr gd Q E la lb l ks va vb ra rb X T hd hu H0 H1 H2 H3 H4 H5 H6 hQ
  k_dflt cell_enter
  (try k_fold)
  (repeat' (first | (fail_if_success (with_reducible show wpAny _ _ (exec (Stmt.While _ _ _ _) _) _ _ _)); (first | (k_unfold; (try dsimp only)) | (k_end; wrow_close) | walk1 | (dsimp only; walk1) | (leave1; walk_say "STEP leave1"; try dsimp only)) | fail "no step"))
  with_unfolding_all refine' while_mp ks ra rb (by assumption) (by assumption) ?km (by rfl) (by rfl) ?_
  (case km => k_mem)
  intro c h tk hc F1 N1
  have hla := H3.length
  have hlb := H4.length
  obtain ⟨hc1, hc2, hc3, hc4, hc5⟩ := id hc
  have hlc := hc1.length
  rw [← hla] at hc2
  (try k_fold)
  k_steps
  · have hi : c.i < ra.length := by omega
    have hj : c.j < rb.length := by omega
    (rename News _ _ _ _ => N9)
    simp only [List.push_toArray] at N9
    refine' mp_next (i' := c.i) (j' := c.j + 1) (by assumption) N9 (by rfl) (by rfl) ?hr (MInv.other hc hi hj (by assumption) _ _ _ _) ?hm
    (case hr => (intro z h1 h2; simp [kstB, h1, h2]))
    (case hm => omega)
  · have hi : c.i < ra.length := by omega
    have hj : c.j < rb.length := by omega
    (rename News _ _ _ _ => N9)
    simp only [List.push_toArray] at N9
    refine' mp_next (i' := c.i + 1) (j' := c.j) (by assumption) N9 (by rfl) (by rfl) ?hr (MInv.one hc hi hj (by assumption) _ _ _ _) ?hm
    (case hr => (intro z h1 h2; simp [kstB, h1, h2]))
    (case hm => omega)
  · k_steps
    (((try dsimp only); (repeat (k_unfold; (try dsimp only)))))
    (rename News _ _ _ _ => N9)
    exact hQ _ _ 0 _ _ _ (Fr.keep (by assumption)) (N9 _ (List.Mem.head _)).2.2 (N9 _ (List.Mem.head _)).1 (rows_end hc1 H3 H4 hc5 (by omega))
  · k_steps
    (((try dsimp only); (repeat (k_unfold; (try dsimp only)))))
    (rename News _ _ _ _ => N9)
    exact hQ _ _ 0 _ _ _ (Fr.keep (by assumption)) (N9 _ (List.Mem.head _)).2.2 (N9 _ (List.Mem.head _)).1 (rows_end hc1 H3 H4 hc5 (by omega))
-- G5
local macro_rules | `(tactic| walk_at "hlen") => `(tactic| first | assumption | omega | (simp; omega))
theorem news_add {h₀ h h' : Heap} {L D : Addr} {m : Str → Option Value} {news : List (Addr × Obj)} {o : Obj} (F : Fr h₀ L h m) (N : News h₀ L h news) (x : Ext h h') (hn : h.get? D = none) (hD : h'.get? D = some o) : News h₀ L h' ((D, o) :: news) := by
  intro p hp
  rcases List.mem_cons.mp hp with rfl | hp
  · refine ⟨hD, ?_, ?_⟩
    · intro e
      obtain ⟨oL, es, ep, ho, r⟩ := F.ns
      rw [← e] at ho
      dsimp only at ho
      rw [hn] at ho; cases ho
    · cases q : h₀.get? D with
      | none => rfl
      | some o' => rw [F.keep _ _ q] at hn; cases hn
  · exact ⟨x _ _ (N p hp).1, (N p hp).2⟩
local macro_rules | `(tactic| walk_at "mp_behind") => `(tactic| (intro h' tk' tt D ys n hx hnone hD hrows; (try dsimp only at hx hnone hD); (have F' := fr_ext (by assumption) hx); (have N' := news_ext (by assumption) hx); (have N'' := news_add (by assumption) (by assumption) hx hnone hD); (try k_sweep); clear N'; (try dsimp only)))
def LsAre (h : Heap) : List Value → List (List Row) → Prop
  | [], [] => True
  | v :: vs, r :: rs => (∃ a us, v = Value.ref a ∧ h.IsList a (List.toArray us) ∧ RowsAre us r) ∧ LsAre h vs rs
  | _, _ => False
theorem LsAre.get {h : Heap} : ∀ {vs : List Value} {rs : List (List Row)}, LsAre h vs rs → ∀ {i : Nat} {v : Value}, vs[i]? = some v → ∃ r a us, rs[i]? = some r ∧ v = .ref a ∧ h.IsList a (List.toArray us) ∧ RowsAre us r
  | [], [], _, i, v, e => by simp at e
  | v :: vs, r :: rs, H, i, u, e => by
    cases i with
    | zero =>
      simp at e; subst e
      obtain ⟨a, us, h1, h2, h3⟩ := H.1
      exact ⟨r, a, us, rfl, h1, h2, h3⟩
    | succ i => simpa using H.2.get (by simpa using e)
  | [], _ :: _, H, _, _, _ => H.elim
  | _ :: _, [], H, _, _, _ => H.elim
theorem LsAre.length {h : Heap} : ∀ {vs : List Value} {rs : List (List Row)}, LsAre h vs rs → vs.length = rs.length
  | [], [], _ => rfl
  | v :: vs, r :: rs, H => by simp [H.2.length]
  | [], _ :: _, H => H.elim
  | _ :: _, [], H => H.elim
local macro_rules | `(tactic| walk_at "hsz2") => `(tactic| (simp only [sizeLine_eq, List.size_toArray]; omega))
local macro_rules | `(tactic| walk_at "call type:list") => `(tactic| (k_here; (with_reducible show wpAny _ _ (call (Value.type _) [Value.ref _]) _ _ _); (with_unfolding_all (refine' list_copyK ?k1 ?k2 ?k3 ?_ ?z; (case k1 => k_asm); (case k2 => k_asm); (case k3 => walk_at "hlist"); (case z => walk_at "hsz2"); k_whole)); intro D' c' h' F' N' l1; (try k_lt l1); (try k_sweep)))
theorem sum_take {rss : List (List Row)} {i : Nat} {r : List Row} (h : rss[i]? = some r) : ((rss.take (i + 1)).map List.length).sum = ((rss.take i).map List.length).sum + r.length := by
  rw [List.take_add_one, h]; simp
theorem sum_le : ∀ (rss : List (List Row)) (i : Nat), ((rss.take i).map List.length).sum ≤ (rss.map List.length).sum
  | [], i => by simp
  | r :: rs, 0 => by simp
  | r :: rs, i + 1 => by simpa using sum_le rs i
def mergeAll (ks : List KeyD) (rss : List (List Row)) : List Row := rss.foldl (mergeL (spec ks)) []
theorem mergeAll_step {ks : List KeyD} {rss : List (List Row)} {i : Nat} {r : List Row} (h : rss[i]? = some r) : mergeAll ks (rss.take (i + 1)) = mergeL (spec ks) (mergeAll ks (rss.take i)) r := by
  unfold mergeAll
  rw [List.take_add_one, h]; simp
theorem mergeL_length (lt : Row → Row → Bool) : ∀ xs ys : List Row, (mergeL lt xs ys).length = xs.length + ys.length := by
  intro xs ys
  induction xs, ys using mergeL.induct lt with
  | case1 ys => simp [mergeL]
  | case2 x xs => simp [mergeL]
  | case3 x xs y ys h ih => rw [mergeL, if_pos h]; simp only [List.length_cons] at ih ⊢; omega
  | case4 x xs y ys h ih => rw [mergeL, if_neg h]; simp only [List.length_cons] at ih ⊢; omega
local macro_rules | `(tactic| walk_at "call ref") => `(tactic| (k_here; (with_reducible show wpAny _ _ (call (Value.ref 276) _ _) _ _ _); k_dflt (refine' mergedpair ?kX ?kT ?kD ?kU ?h0 ?h1 ?h2 ?h3 ?h4 ?h5 ?h6 ?_; (case kX => k_in); (case kT => walk_at "htop"); (case kD => walk_at "hroom"); (case kU => walk_at "hroom"); (case h0 => walk_at "hkeys"); (case h1 => walk_at "hlist"); (case h2 => walk_at "hlist"); (case h3 => assumption); (case h4 => assumption); (case h5 => walk_at "hlen"); (case h6 => walk_at "hlen"); k_whole); walk_at "mp_behind"))
set_option maxRecDepth 100000 in
set_option maxHeartbeats 4000000 in
theorem mergedrows : ∀ {w : World} {mean : ExcName → Option Value} {mg mb : Str → Option Value} {s : Shared} {dp un : Nat} {fr : Option (List Env)} {gd : Option (List Code)} {Q : Value → Shared → Prop} {E : Value → Shared → Prop} {ll l : Addr} {ks : List KeyD} {vl : List Value} {rss : List (List Row)},
   (Mine.hd.heap_39 w.params).In s.heap → Top Mine.hd.view_39 LL mean mg mb s.heap → dp + 11 < recursionLimit → un + 138 < cLine →
   (KeysAt s.heap l ks) →
   (s.heap.IsList ll vl.toArray) →
   (LsAre s.heap vl rss) →
   ((rss.map List.length).sum ≤ 900) →
   (∀ h' tk' (tt : Nat) D ys n, Ext s.heap h' → s.heap.get? D = none → h'.get? D = some (listOf ys n) → RowsAre ys.toList (mergeAll ks rss) → Q (.ref D) { s with heap := h', toks := tk' }) →
   wpAny (model Challenge.rw_pc0145_01.row.prog w) ⟨none, dp, fr, gd, un⟩ (call (.ref 283) [.ref ll, .ref l]) Q E s := by
  k_fill
  intro w mean mg mb s dp un fr gd Q E ll l ks vl rss X T hd hu H0 H1 H2 H3 hQ
  k_dflt cell_enter
  (try k_fold)
  k_steps
  with_unfolding_all refine' For_invVF (by assumption) ?k1 ?k2 ?_
  (case k1 => exact rfl)
  (case k2 => exact rfl)
  k_steps
  with_unfolding_all refine' iter_acc (y := Str.ofString "found") (fun i xs => RowsAre xs.toList (mergeAll ks (rss.take i)) ∧ (mergeAll ks (rss.take i)).length = ((rss.take i).map List.length).sum) rfl H1 (by assumption) (by assumption) ?kD (by rfl) (by decide) ⟨.nil, rfl⟩ ?_ ?_
  (case kD => k_mem)
  · intro i v D xs k h tk own hv hP F1 N1
    obtain ⟨r, a, us, hr, rfl, hus, hru⟩ := H2.get hv
    obtain ⟨ys, rfl⟩ : ∃ ys : List Value, xs = ys.toArray := ⟨xs.toList, by simp⟩
    obtain ⟨hP1, hP2⟩ := hP
    simp only at hP1
    have hrl := hru.length
    have hsum := sum_take hr
    have hle := sum_le rss (i + 1)
    (try k_fold)
    k_steps
    (((((try dsimp only); (repeat (k_unfold; (try dsimp only))))); (refine' apost_next ?aFx53 ?aNx53 ?aDx53 ?ayx53 ?anx53 ?amx53 ?apx53; (case aFx53 => assumption); (case aNx53 => assumption); (case ayx53 => rfl); (case aDx53 => k_mem); (case anx53 => (intro p hp; k_ownIn)); (case amx53 => (intro z h1 h2; simp [h1, h2])))))
    (rename RowsAre _ _ => hr9)
    rw [mergeAll_step hr, mergeL_length, hP2, hsum]
    exact ⟨hr9, rfl⟩
  · intro D xs k u h tk hP F1 N1
    k_steps
    (((try dsimp only); (repeat (k_unfold; (try dsimp only)))))
    (rename News _ _ _ _ => N9)
    refine hQ _ _ 0 _ _ _ (Fr.keep (by assumption)) (N9 _ (List.Mem.head _)).2.2 (N9 _ (List.Mem.head _)).1 ?_
    have e : rss.take vl.length = rss := List.take_of_length_le (Nat.le_of_eq H2.length.symm)
    rw [e] at hP
    exact hP.1
-- G6
local macro_rules | `(tactic| walk_at "call ref") => `(tactic| (k_here; (with_reducible show wpAny _ _ (call (Value.ref 283) _ _) _ _ _); k_dflt (refine' mergedrows ?kX ?kT ?kD ?kU ?h0 ?h1 ?h2 ?h3 ?_; (case kX => k_in); (case kT => walk_at "htop"); (case kD => walk_at "hroom"); (case kU => walk_at "hroom"); (case h0 => walk_at "hkeys"); (case h1 => walk_at "hlist"); (case h2 => assumption); (case h3 => walk_at "hlen"); k_whole); walk_at "mp_behind"))
section
variable {prog : Program} {w : World} {A : Around} {E : Value → Shared → Prop} {s : Shared}
theorem item_rowsZ {value slice : Expr} {l : Addr} {vs : List Value} {rs : List Row} {k : Int} {u : Tok} {Q : Value → Shared → Prop} (hl : s.heap.IsList l vs.toArray) (hr : RowsAre vs rs) (h0 : 0 ≤ k) (hj : k.toNat < rs.length) (hb : k < 2 ^ 62)
    (h : ∀ t, Q (.bytes (rs[k.toNat]'hj).oct t) s)
    (hs : subscripted slice false (.ref l) (.int k u) = operate [.ref l, .int k u] (getItem (.ref l) (.int k u)) := by with_unfolding_all rfl) :
    wpAny (model prog w) A (subscriptTail value slice (.ref l) (.int k u)) Q E s := by
  obtain ⟨t, ht⟩ := hr.get (i := k.toNat) (r := rs[k.toNat]'hj) (by simp [hj])
  exact tail_any hl.typeIs slot_list_getitem.lookup (wpAny_getItem_list hl h0 (by omega) (by simpa using ht) (h t)) hs
end
local macro_rules | `(tactic| walk_at "subscriptTail Name Name ref int") => `(tactic| ((with_reducible show wpAny _ _ (subscriptTail _ _ (Value.ref _) (Value.int _ _)) _ _ _); (with_unfolding_all refine' item_rowsZ ?k1 ?k2 ?k3 ?k4 ?k5 ?_; (case k1 => walk_at "hlist"); (case k2 => assumption); (case k3 => omega); (case k4 => omega); (case k5 => omega); k_whole); intro _))
local macro_rules | `(tactic| walk_at "subscriptTail Name BinOp ref int") => `(tactic| ((with_reducible show wpAny _ _ (subscriptTail _ _ (Value.ref _) (Value.int _ _)) _ _ _); (with_unfolding_all refine' item_rowsZ ?k1 ?k2 ?k3 ?k4 ?k5 ?_; (case k1 => walk_at "hlist"); (case k2 => assumption); (case k3 => omega); (case k4 => omega); (case k5 => omega); k_whole); intro _))
theorem rngsize (n : Nat) : Builtin.Range.rangeSize 1 (n : Int) 1 = ((n - 1 : Nat) : Int) := by
  unfold Builtin.Range.rangeSize
  simp
  omega
set_option maxRecDepth 100000 in
set_option maxHeartbeats 4000000 in
theorem isinorder : ∀ {w : World} {mean : ExcName → Option Value} {mg mb : Str → Option Value} {s : Shared} {dp un : Nat} {fr : Option (List Env)} {gd : Option (List Code)} {Q : Value → Shared → Prop} {E : Value → Shared → Prop} {la l : Addr} {ks : List KeyD} {va : List Value} {ra : List Row},
   (Mine.hd.heap_39 w.params).In s.heap → Top Mine.hd.view_39 LL mean mg mb s.heap → dp + 10 < recursionLimit → un + 130 < cLine →
   (KeysAt s.heap l ks) →
   (s.heap.IsList la va.toArray) →
   (RowsAre va ra) →
   (ra.length ≤ 1000) →
   (∀ i (h : i + 1 < ra.length), spec ks (ra[i + 1]) (ra[i]) = false) →
   (∀ h' tk' (tt : Nat), Ext s.heap h' → Q (.bool true) { s with heap := h', toks := tk' }) →
   wpAny (model Challenge.rw_pc0145_01.row.prog w) ⟨none, dp, fr, gd, un⟩ (call (.ref 290) [.ref la, .ref l]) Q E s := by
  k_fill
  intro w mean mg mb s dp un fr gd Q E la l ks va ra X T hd hu H0 H1 H2 H3 H4 hQ
  have hla := H2.length
  k_dflt cell_enter
  (try k_fold)
  (repeat' (first | (fail_if_success (with_reducible show wpAny _ _ (exec (Stmt.While _ _ _ _) _) _ _ _)); (fail_if_success (with_reducible show wpAny _ _ (pyIter (Value.ref _)) (fun it s₂ => LoopAtV _ _ _ _ _ _ _ _ _ it s₂) _ _)); (first | (k_unfold; (try dsimp only)) | (k_end; wrow_close) | walk1 | (dsimp only; walk1) | (leave1; walk_say "STEP leave1"; try dsimp only)) | fail "no step"))
  with_unfolding_all refine' iter_rng [] (fun _ => True) rfl (by assumption) ?ks (rngsize _) (by assumption) trivial ?_ ?_
  (case ks => exact small_one (by omega) (by omega) (by omega) (by omega))
  · intro i t h tk u own hi _ F1 N1
    have hi1 : i + 1 < ra.length := by omega
    have hord := H4 i hi1
    (try k_fold)
    have e1 : (1 + (i : Int)).toNat = i + 1 := by omega
    have e2 : (1 + (i : Int) - 1).toNat = i := by omega
    k_steps
    · exfalso
      rename_i hh
      simp only [e1, e2] at hh
      exact absurd (hh.symm.trans hord) (by decide)
    · (((((try dsimp only); (repeat (k_unfold; (try dsimp only))))); (refine' vpost_next ?vFx57 ?vNx57 ?vnx57 ?vmx57 ?vjx57; (case vFx57 => assumption); (case vNx57 => assumption); (case vnx57 => (intro p hp; k_ownIn)); (case vmx57 => ((intro z h2 h3; first | rfl | (simp only [List.contains_cons, List.contains_nil, Bool.or_false, Bool.or_eq_false_iff, beq_eq_false_iff_ne, ne_eq] at h3; simp [h2, h3]; done)))))))
      trivial
  · intro u h tk _ F1 N1
    k_steps
    (((try dsimp only); (repeat (k_unfold; (try dsimp only)))))
    exact hQ _ _ 0 (Fr.keep (by assumption))
-- G7
def WOk (h : Heap) (k : KeyD) : Prop := ∃ tp, IsTup h k.k #[.bool k.asc, .int (if k.num then 1 else 0) tp]
def WantedAt (h : Heap) (l : Addr) (ks : List KeyD) : Prop := h.IsList l (ks.map fun k => Value.ref k.k).toArray ∧ ∀ k ∈ ks, WOk h k
def WorthAt (h : Heap) (v : Value) (r : Row) : Prop := ∃ a t1 t2 t3, v = .ref a ∧ IsTup h a #[.bytes #[r.t] t1, .int r.w t2, .int (r.n.toNat : Int) t3]
set_option maxRecDepth 100000 in
set_option maxHeartbeats 4000000 in
theorem lawahead : ∀ {w : World} {mean : ExcName → Option Value} {mg mb : Str → Option Value} {s : Shared} {dp un : Nat} {fr : Option (List Env)} {gd : Option (List Code)} {Q : Value → Shared → Prop} {E : Value → Shared → Prop} {l a b : Addr} {ks : List KeyD} {r r2 : Row},
   (Mine.hd.heap_39 w.params).In s.heap → Top Mine.hd.view_39 LL mean mg mb s.heap → dp + 3 < recursionLimit → un + 74 < cLine →
   (WantedAt s.heap l ks) →
   (WorthAt s.heap (.ref a) r) →
   (WorthAt s.heap (.ref b) r2) →
   (∀ h' tk' (tt : Nat), Ext s.heap h' → Q (.bool (spec ks r r2)) { s with heap := h', toks := tk' }) →
   wpAny (model Challenge.rw_pc0145_01.row.prog w) ⟨none, dp, fr, gd, un⟩ (call (.ref 544) [.ref l, .ref a, .ref b]) Q E s := by
  k_fill
  intro w mean mg mb s dp un fr gd Q E l a b ks r r2 X T hd hu H0 H1 H2 hQ
  obtain ⟨hl, hk⟩ := H0
  obtain ⟨a', t1, t2, t3, ea, ha⟩ := H1
  obtain ⟨b', u1, u2, u3, eb, hb⟩ := H2
  cases ea
  cases eb
  k_dflt cell_enter
  (try k_fold)
  k_steps
  with_unfolding_all refine' For_G (by assumption) ?_
  k_steps
  with_unfolding_all refine' iter_tgtS [Str.ofString "is_ascending", Str.ofString "place"] (fun i => aheadL ((ks.map fun k => (k.asc, k.num)).drop i) r r2 = aheadL (ks.map fun k => (k.asc, k.num)) r r2) rfl hl (by assumption) rfl ?_ ?_ ?_
  · intro s' I i v Q' hv hit hQ'
    simp only [List.mem_map] at hv
    obtain ⟨k, _, rfl⟩ := hv
    exact go_list hit hQ'
  · intro i v own u h tk hv hJ F1 N1
    obtain ⟨k, hki, rfl⟩ : ∃ k, ks[i]? = some k ∧ v = Value.ref k.k := by
      rw [List.getElem?_map] at hv
      cases e : ks[i]? with
      | none => rw [e] at hv; cases hv
      | some k => rw [e] at hv; exact ⟨k, rfl, (Option.some.inj hv).symm⟩
    obtain ⟨tp, htup⟩ := hk k (List.mem_of_getElem? hki)
    obtain ⟨ka, kasc, knum⟩ := k
    cases knum with
    | true =>
      simp only [if_true] at htup
      (try k_fold)
      k_steps
      · (((((try dsimp only); (repeat (k_unfold; (try dsimp only))))); (try dsimp only [SPost]); (((try dsimp only); (repeat (k_unfold; (try dsimp only)))))))
        rename_i hne
        refine' q_end (hQ _ _ 0 ?e1) ?e2
        (case e1 => (exact Fr.keep (by assumption)))
        (case e2 => exact congrArg Value.bool (ah_ne hki hJ rfl rfl hne))
      · (((((try dsimp only); (repeat (k_unfold; (try dsimp only))))); (refine' spost_next ?vFx65 ?vNx65 ?vnx65 ?vmx65 ?vjx65; (case vFx65 => assumption); (case vNx65 => assumption); (case vnx65 => (intro p hp; k_ownIn)); (case vmx65 => ((intro z h3; first | rfl | (simp only [List.contains_cons, List.contains_nil, Bool.or_false, Bool.or_eq_false_iff, beq_eq_false_iff_ne, ne_eq] at h3; simp [h3]; done)))))))
        rename_i he
        exact ah_eq hki hJ rfl rfl he
    | false =>
      simp only [Bool.false_eq_true, if_false] at htup
      (try k_fold)
      k_steps
      · (((((try dsimp only); (repeat (k_unfold; (try dsimp only))))); (try dsimp only [SPost]); (((try dsimp only); (repeat (k_unfold; (try dsimp only)))))))
        rename_i hne
        refine' q_end (hQ _ _ 0 ?e1) ?e2
        (case e1 => (exact Fr.keep (by assumption)))
        (case e2 => (rw [b_lt]; exact congrArg Value.bool (ah_ne (a := (r.t.toNat : Int)) (b := (r2.t.toNat : Int)) hki hJ rfl rfl (b_ne hne))))
      · (((((try dsimp only); (repeat (k_unfold; (try dsimp only))))); (refine' spost_next ?vFx72 ?vNx72 ?vnx72 ?vmx72 ?vjx72; (case vFx72 => assumption); (case vNx72 => assumption); (case vnx72 => (intro p hp; k_ownIn)); (case vmx72 => ((intro z h3; first | rfl | (simp only [List.contains_cons, List.contains_nil, Bool.or_false, Bool.or_eq_false_iff, beq_eq_false_iff_ne, ne_eq] at h3; simp [h3]; done)))))))
        rename_i he
        exact ah_eq (a := (r.t.toNat : Int)) (b := (r2.t.toNat : Int)) hki hJ rfl rfl (b_eq he)
  · intro u h tk hJ F1 N1
    k_steps
    (((try dsimp only); (repeat (k_unfold; (try dsimp only)))))
    refine' q_end (hQ _ _ 0 ?e1) ?e2
    (case e1 => (exact Fr.keep (by assumption)))
    (case e2 => (refine congrArg Value.bool ?_; refine Eq.trans ?_ hJ; rw [List.drop_of_length_le (by simp)]; rfl))
-- G8
theorem isTup_fr {h₀ h : Heap} {L : Addr} {m : Str → Option Value} {a : Addr} {x : Array Value} (F : Fr h₀ L h m) (H : IsTup h₀ a x) : IsTup h a x := by
  obtain ⟨o, e, r⟩ := H
  exact ⟨o, F.keep _ _ e, r⟩
theorem wanted_fr {h₀ h : Heap} {L : Addr} {m : Str → Option Value} {l : Addr} {ks : List KeyD} (F : Fr h₀ L h m) (H : WantedAt h₀ l ks) : WantedAt h l ks :=
  ⟨H.1.at fun o e => F.keep _ o e, fun k hk => (H.2 k hk).imp fun _ x => isTup_fr F x⟩
theorem worth_fr {h₀ h : Heap} {L : Addr} {m : Str → Option Value} {v : Value} {r : Row} (F : Fr h₀ L h m) (H : WorthAt h₀ v r) : WorthAt h v r := by
  obtain ⟨a, t1, t2, t3, e, ht⟩ := H
  exact ⟨a, t1, t2, t3, e, isTup_fr F ht⟩
theorem enterHC {w : World} {A : Around} {s : Shared} {K : Frag} {p : Program} {loose : List Str} {mean : ExcName → Option Value} {mg mb : Str → Option Value}
    {name qual : Str} {params : Arguments} {body : List Stmt} {scope : Scope} {dV kV doc pm cdv ct oc : Value} {an od : Option Addr} {osl : Array (Option Value)} {f : Addr} {args : List Value} {kw : List (Str × Value)} {binds : List (Str × Value)}
    {Q : Value → Shared → Prop} {E : Value → Shared → Prop}
    (X : K.In s.heap) (T : Top p loose mean mg mb s.heap)
    (ho : K.lookup f = some ⟨oc, od, .func (fnOf name qual params body scope dV kV doc pm an cdv ct), osl⟩) (hcd : codeIn K cdv qual = true) (hroom : A.depth < recursionLimit)
    (hbind : BindsTo s (fnOf name qual params body scope dV kV doc pm an cdv ct) ⟨args, kw⟩ binds) (hkind : (binds.all fun y => scope.names.lookup y.1 == some .local || scope.names.lookup y.1 == some .cell) = true)
    (hnd : ((cellsFrom 0 scope.names []).map (·.1)).Nodup)
    (hco : scope.isCoroutine = false) (hgen : scope.isGenerator = false) (hk : scope.kind = .function)
    (h : ∀ h₁ tk cells, Fr s.heap s.heap.objs.size h₁ (bindL (envOfC qual scope s.heap.objs.size f cdv).kindOf binds fun _ => none) → News s.heap s.heap.objs.size h₁ cells →
      CellsAre (bindC (envOfC qual scope s.heap.objs.size f cdv).kindOf binds fun _ => none) (cellsFrom (s.heap.objs.size + 1) scope.names []) cells →
      wpAny (model Challenge.rw_pc0145_01.row.prog w) (A.deeper (envOfC qual scope s.heap.objs.size f cdv)) (execs body (envOfC qual scope s.heap.objs.size f cdv))
        (fun fl s' => Q (match fl with | .ret v => v | _ => .none) s') (fun _ _ => False)
        { s with heap := h₁, toks := tk }) :
    wpAny (model Challenge.rw_pc0145_01.row.prog w) A (call (.ref f) args kw) Q E s := by
  refine wpAny_call ?_
  refine codeAny_call_function hroom (X _ _ ho) rfl hco hgen rfl (codeRec_of X hcd) (hbind _ _ _ _ ?_)
  refine wpAny_newFunctionEnv_cells hk (kindsX hkind _) fun env' he s' x => ?_
  subst he
  refine ⟨T.nolimit.keeps x.toInCall.keep, codeAny_func ?_⟩
  obtain ⟨h₁, tk, rfl, _⟩ := x.done
  have hk₁ := x.toInCall.keep
  obtain ⟨cells, NC, Y⟩ := Cl.news (h₀ := s.heap) (Nat.le_refl _) fun n c hm => ⟨x.cell n c (lookup_of_mem_nodup (cellsFrom_names scope.names 0 (s.heap.objs.size + 1) [] [] rfl ▸ hnd) hm), x.above n c hm⟩
  exact wpAny_mono (h h₁ tk cells ⟨x.toInCall.ns, hk₁, Nat.le_refl _⟩ NC Y) (fun fl s' q => q) (fun e s' q => q.elim)
local macro_rules | `(tactic| walk_at "hsz") => `(tactic| (simp only [PySem.slicePick_from', PySem.slicePick_upto', sizeLine_eq, List.toList_toArray, List.length_append, List.length_drop, List.length_take, List.length_cons, List.length_nil]; omega))
local macro_rules | `(tactic| walk_at "subscriptTail Name Slice ref ref") => `(tactic| (k_here; (with_reducible show wpAny _ _ (subscriptTail _ (PySem.Expr.Slice _ none none _) (Value.ref _) (Value.ref _)) _ _ _); k_dflt (refine slice_list (by k_asm) (by k_asm) (by walk_at "hlist") (by first | exact .none | exact .int _ _) (by first | exact .none | exact .int _ _) ?_); intro _ _ _; (try k_sweep)))
theorem fix_fn {m : Str → Option Value} {y : Str} {v : Value} (h : m y = some v) : m = fun z => if z = y then some v else m z := by
  funext z
  by_cases e : z = y
  · simp [e, h]
  · simp [e]
inductive WorthsAre (h : Heap) : List Value → List Row → Prop
  | nil : WorthsAre h [] []
  | cons {v : Value} {r : Row} {vs : List Value} {rs : List Row} : WorthAt h v r → WorthsAre h vs rs → WorthsAre h (v :: vs) (r :: rs)
theorem WorthsAre.get {h : Heap} {vs : List Value} {rs : List Row} (x : WorthsAre h vs rs) : ∀ {i : Nat} {v : Value}, vs[i]? = some v → ∃ r a, rs[i]? = some r ∧ v = .ref a ∧ WorthAt h (.ref a) r := by
  induction x with
  | nil => intro i v e; simp at e
  | cons hw _ ih =>
    intro i v e
    cases i with
    | zero =>
      cases e
      obtain ⟨a, t1, t2, t3, rfl, ht⟩ := hw
      exact ⟨_, a, rfl, rfl, a, t1, t2, t3, rfl, ht⟩
    | succ i => exact ih (by simpa using e)
theorem WorthsAre.mem {h : Heap} {vs : List Value} {rs : List Row} (x : WorthsAre h vs rs) : ∀ {v : Value}, v ∈ vs → ∃ r, WorthAt h v r := by
  induction x with
  | nil => intro v e; cases e
  | cons hw _ ih =>
    intro v e
    rcases List.mem_cons.mp e with rfl | e
    · exact ⟨_, hw⟩
    · exact ih e
theorem isTup_inj {h : Heap} {a : Addr} {x y : Array Value} (hx : IsTup h a x) (hy : IsTup h a y) : x = y := by
  obtain ⟨_, e1, _, n, e2⟩ := hx
  obtain ⟨_, f1, _, k, f2⟩ := hy
  rw [e1] at f1
  cases f1
  rw [e2] at f2
  cases f2
  rfl
theorem worth_inj {h : Heap} {v : Value} {r r' : Row} (x : WorthAt h v r) (y : WorthAt h v r') : r.t = r'.t ∧ r.w = r'.w := by
  obtain ⟨a, t1, t2, t3, rfl, ht⟩ := x
  obtain ⟨a', u1, u2, u3, e, hu⟩ := y
  cases e
  have := isTup_inj ht hu
  simp only [Array.mk.injEq, List.cons.injEq, Value.bytes.injEq, Value.int.injEq, and_true] at this
  exact ⟨this.1.1, this.2.1.1⟩
theorem kv_congr {b : Bool} {r r' : Row} (e : r.t = r'.t ∧ r.w = r'.w) : kv b r = kv b r' := by
  cases b <;> simp [kv, e.1, e.2]
theorem ahead_congr {ks : List (Bool × Bool)} {x r r' : Row} (e : r.t = r'.t ∧ r.w = r'.w) : aheadL ks x r = aheadL ks x r' := by
  induction ks with
  | nil => rfl
  | cons k ks ih => simp only [aheadL, kv_congr e, ih]
open Classical in
noncomputable def wp (h : Heap) (ks : List KeyD) (x : Row) (v : Value) : Bool := decide (∃ r, WorthAt h v r ∧ spec ks x r = false)
theorem wp_of {h : Heap} {ks : List KeyD} {x r : Row} {v : Value} (hw : WorthAt h v r) : wp h ks x v = !spec ks x r := by
  unfold wp
  by_cases e : spec ks x r = false
  · rw [e]
    simpa using ⟨r, hw, e⟩
  · have e' : spec ks x r = true := by simpa using e
    rw [e']
    simp only [Bool.not_true, decide_eq_false_iff_not]
    rintro ⟨r', hw', h'⟩
    rw [spec, ← ahead_congr (worth_inj hw hw')] at h'
    exact e h'
theorem wfilter {h : Heap} {ks : List KeyD} {x : Row} {xs : List Value} {rs : List Row} (hw : WorthsAre h xs rs) : (xs.filter (wp h ks x)).length = (rs.filter fun y => !spec ks x y).length := by
  induction hw with
  | nil => rfl
  | cons hv _ ih =>
    simp only [List.filter_cons, wp_of hv]
    split <;> simp [ih]
theorem WorthsAre.length {h : Heap} {vs : List Value} {rs : List Row} (x : WorthsAre h vs rs) : vs.length = rs.length := by
  induction x with
  | nil => rfl
  | cons _ _ ih => simp [ih]
theorem WorthsAre.take {h : Heap} {vs : List Value} {rs : List Row} (x : WorthsAre h vs rs) : ∀ n, WorthsAre h (vs.take n) (rs.take n) := by
  induction x with
  | nil => intro n; simp; exact .nil
  | cons hv _ ih =>
    intro n
    cases n with
    | zero => exact .nil
    | succ n => exact .cons hv (ih n)
theorem WorthsAre.drop {h : Heap} {vs : List Value} {rs : List Row} (x : WorthsAre h vs rs) : ∀ n, WorthsAre h (vs.drop n) (rs.drop n) := by
  induction x with
  | nil => intro n; simp; exact .nil
  | cons hv ht ih =>
    intro n
    cases n with
    | zero => exact .cons hv ht
    | succ n => exact ih n
theorem WorthsAre.append {h : Heap} {vs vs' : List Value} {rs rs' : List Row} (x : WorthsAre h vs rs) (y : WorthsAre h vs' rs') : WorthsAre h (vs ++ vs') (rs ++ rs') := by
  induction x with
  | nil => exact y
  | cons hv _ ih => exact .cons hv ih
/-- insertion, as the law does it -/
def insL (lt : Row → Row → Bool) (f : List Row) (x : Row) : List Row := let k := (f.filter fun y => !lt x y).length; f.take k ++ [x] ++ f.drop k
def insAll (lt : Row → Row → Bool) (rs : List Row) : List Row := rs.foldl (insL lt) []
def InsOk (h : Heap) (ks : List KeyD) (vs : List Value) (rs : List Row) (xs : List Value) : Prop := WorthsAre h xs (insAll (spec ks) rs) ∧ ∀ v ∈ xs, v ∈ vs
theorem insL_length {lt : Row → Row → Bool} {f : List Row} {x : Row} : (insL lt f x).length = f.length + 1 := by
  simp only [insL, List.length_append, List.length_take, List.length_drop, List.length_singleton]
  omega
theorem insAll_length' {lt : Row → Row → Bool} : ∀ (rs f : List Row), (rs.foldl (insL lt) f).length = f.length + rs.length
  | [], f => by simp
  | r :: rs, f => by rw [List.foldl_cons, insAll_length' rs, insL_length]; simp; omega
theorem insAll_length {lt : Row → Row → Bool} {rs : List Row} : (insAll lt rs).length = rs.length := by rw [insAll, insAll_length']; simp
theorem insAll_snoc {lt : Row → Row → Bool} {rs : List Row} {r : Row} : insAll lt (rs ++ [r]) = insL lt (insAll lt rs) r := by simp [insAll, List.foldl_append]
theorem take_snoc {α : Type} {l : List α} {i : Nat} {r : α} (h : l[i]? = some r) : l.take (i + 1) = l.take i ++ [r] := by
  rw [List.take_add_one, h]; rfl
theorem insOk_step {h : Heap} {ks : List KeyD} {vs : List Value} {rs : List Row} {xs : List Value} {i : Nat} {r : Row} {v : Value} {n : Nat} (H : InsOk h ks vs (rs.take i) xs) (hvs : v ∈ vs) (hr : rs[i]? = some r) (hv : WorthAt h v r) (hn : n = (xs.filter (wp h ks r)).length) :
    InsOk h ks vs (rs.take (i + 1)) (xs.take n ++ [v] ++ xs.drop n) := by
  obtain ⟨H, H'⟩ := H
  refine ⟨?_, fun u hu => ?_⟩
  rotate_left
  · simp only [List.mem_append, List.mem_singleton] at hu
    rcases hu with (hu | rfl) | hu
    · exact H' _ (List.mem_of_mem_take hu)
    · exact hvs
    · exact H' _ (List.mem_of_mem_drop hu)
  rw [take_snoc hr, insAll_snoc, insL]
  rw [wfilter H] at hn
  subst hn
  exact ((H.take _).append (.cons hv .nil)).append (H.drop _)
theorem insOk_nil {h : Heap} {ks : List KeyD} {vs : List Value} : InsOk h ks vs [] [] := ⟨.nil, fun _ h => nomatch h⟩
local macro_rules | `(tactic| walk_at "call ref") => `(tactic| (k_here; (with_reducible show wpAny _ _ (call (Value.ref 544) _ _) _ _ _); k_dflt (refine' lawahead ?kX ?kT ?kD ?kU ?h0 ?h1 ?h2 ?_; (case kX => k_in); (case kT => walk_at "htop"); (case kD => walk_at "hroom"); (case kU => walk_at "hroom"); (case h0 => (first | assumption | exact wanted_fr (by assumption) (by assumption))); (case h1 => (first | assumption | exact worth_fr (by assumption) (by assumption))); (case h2 => (first | assumption | exact worth_fr (by assumption) (by assumption))); k_whole); walk_at "hbehind"))
set_option maxRecDepth 100000 in
set_option maxHeartbeats 4000000 in
theorem lawinorder : ∀ {w : World} {mean : ExcName → Option Value} {mg mb : Str → Option Value} {s : Shared} {dp un : Nat} {fr : Option (List Env)} {gd : Option (List Code)} {Q : Value → Shared → Prop} {E : Value → Shared → Prop} {l lw : Addr} {ks : List KeyD} {vs : List Value} {rs : List Row},
   (Mine.hd.heap_39 w.params).In s.heap → Top Mine.hd.view_39 LL mean mg mb s.heap → dp + 8 < recursionLimit → un + 114 < cLine →
   (WantedAt s.heap l ks) →
   (s.heap.IsList lw vs.toArray) →
   (WorthsAre s.heap vs rs) →
   (rs.length ≤ 100) →
   (∀ h' tk' (tt : Nat) D ys n, Ext s.heap h' → s.heap.get? D = none → h'.get? D = some (listOf ys n) → WorthsAre s.heap ys.toList (insAll (spec ks) rs) → (∀ v ∈ ys.toList, v ∈ vs) → Q (.ref D) { s with heap := h', toks := tk' }) →
   wpAny (model Challenge.rw_pc0145_01.row.prog w) ⟨none, dp, fr, gd, un⟩ (call (.ref 549) [.ref l, .ref lw]) Q E s := by
  k_fill
  intro w mean mg mb s dp un fr gd Q E l lw ks vs rs X T hd hu H0 H1 H2 H3 hQ
  k_dflt ((refine' enterHC ?k1x77 ?k2x77 ?k6x77 ?k7x77 ?k8x77 ?k9x77 ?kBx77 ?kDx77 ?c2x77 ?c3x77 ?c4x77 ?_; (case k1x77 => assumption); (case k2x77 => assumption); (case k6x77 => k_is); (case k7x77 => k_is); (case k8x77 => first | assumption | omega | ktr_room); (case k9x77 => exact BindsTo.of_eq rfl); (case kBx77 => exact rfl); (case kDx77 => decide +kernel); (case c2x77 => exact rfl); (case c3x77 => exact rfl); (case c4x77 => exact rfl); k_whole))
  intro h₁ tk₁ cells F N Y
  dsimp only at F N Y ⊢
  obtain ⟨o1, o2, rfl, e1, e2⟩ := CellsAre.two Y
  clear Y
  (try k_fold)
  k_steps
  with_unfolding_all refine' For_G (by assumption) ?_
  k_steps
  (rename News _ _ _ _ => N9)
  (rename Fr _ _ _ _ => F9)
  with_unfolding_all refine' iter_tgt (fun i m nx => ∃ D xs k o ov, nx = [(D, listOf xs k), (s.heap.objs.size + 1 + 1, o), (s.heap.objs.size + 1, o2)] ∧ s.heap.objs.size + 1 + 1 < D ∧ o.data = Data.cell ov ∧ m (Str.ofString "found") = some (.ref D) ∧ InsOk s.heap ks vs (rs.take i) xs.toList) rfl H1 (by assumption) (by assumption) ⟨_, _, _, _, _, rfl, ?in1, e1, rfl, insOk_nil⟩ ?_ ?_ ?_ ?_
  case in1 => (rename (_ ∧ _) => l9; exact l9.1)
  · intro p hp
    simp only [List.mem_cons, List.not_mem_nil, or_false] at hp
    rcases hp with rfl | rfl | rfl
    · exact .inl fun h => absurd (Value.type.inj h) (by decide)
    · exact .inr ⟨_, e1⟩
    · exact .inr ⟨_, e2⟩
  · intro s' I i v Q' _ _ hQ'
    exact go_name hQ'
  · rintro i v I oI m₁ news₁ h tk hv ⟨D, xs, k, o, ov, rfl, hD, ho, hm, hins⟩ hoff hcI F1 N1
    rw [fix_fn hm] at F1
    simp only [List.cons_append, List.nil_append] at N1
    simp only [List.forall_mem_cons, List.not_mem_nil, false_implies, implies_true, and_true] at hoff
    obtain ⟨hoff1, hoff2, hoff3⟩ := hoff
    replace hoff1 := neN hoff1
    replace hoff2 := neN hoff2
    replace hoff3 := neN hoff3
    replace hD := ltN hD
    obtain ⟨r, a, hri, rfl, hwr⟩ := H2.get hv
    have hxl : xs.toList.length ≤ 100 := by
      rw [hins.1.length, insAll_length, List.length_take]; omega
    (try k_fold)
    (repeat' (first | (fail_if_success (with_reducible show wpAny _ _ (eval (Expr.ListComp _ _ _ _) _) _ _ _)); (first | (k_unfold; (try dsimp only)) | (k_end; wrow_close) | walk1 | (dsimp only; walk1) | (leave1; walk_say "STEP leave1"; try dsimp only)) | fail "no step"))
    ((with_unfolding_all refine' comp_F ?hhx79 ?hclosx79 ?hcellx79 ?hkindx79 ?hnamesx79 ?hxx79 ?_ ?hsx79; (case hhx79 => rfl); (case hclosx79 => with_unfolding_all rfl); (case hcellx79 => decide); (case hkindx79 => with_unfolding_all rfl); (case hnamesx79 => decide); (case hxx79 => with_unfolding_all rfl); (case hsx79 => intro _; with_unfolding_all rfl)))
    k_steps
    (rename News _ _ _ _ => N9)
    (rename Fr _ _ _ _ => F9)
    with_unfolding_all refine' cfp_intro xs.toList (wp s.heap ks r) (fun v y => v = y) ?g1 ?g2 F9 N9 ?g3 ?g4 ?g5
    (case g1 => exact ⟨_, (N9 _ (by k_mem)).1, rfl, _, rfl⟩)
    (case g2 => exact Nat.le_trans hxl (by decide))
    (case g3 =>
      intro C v s₂ m₂ E' hv' F2 N2 hE2
      obtain ⟨r', hwr'⟩ : ∃ r', WorthAt s.heap v r' := WorthsAre.mem hins.1 hv'
      obtain ⟨a', t1, t2, t3, rfl, ht'⟩ := id hwr'
      rw [wp_of hwr']
      k_steps
      all_goals (try (((try dsimp only); (repeat (k_unfold; (try dsimp only))))))
      all_goals (first | (exact ⟨_, _, rfl, fun b o e => by repeat (first | exact e | refine Heap.get?_push_of_some _ ?_ | assumption | (rename Ext _ _ => hx'; first | exact hx' _ _ e | (refine hx' _ _ ?_; clear hx') | clear hx'))⟩) | (first | exact (0 : Nat) | exact Str.ofString "" | exact Value.none | exact ([] : List (Str × Addr)))))
    (case g4 =>
      intro C v s₂ m₂ E' hv' hp' F2 N2 hE2
      k_steps
      all_goals (try (((try dsimp only); (repeat (k_unfold; (try dsimp only))))))
      all_goals (first | (exact ⟨_, _, rfl, fun b o e => by repeat (first | exact e | refine Heap.get?_push_of_some _ ?_ | assumption | (rename Ext _ _ => hx'; first | exact hx' _ _ e | (refine hx' _ _ ?_; clear hx') | clear hx'))⟩) | (first | exact (0 : Nat) | exact Str.ofString "" | exact Value.none | exact ([] : List (Str × Addr)))))
    (case g5 =>
      intro D' ys n h'' tk'' hE3 hDn F3 N3 hP
      have hlD : h''.IsList D' ys.toArray := ⟨_, (N3 _ (List.Mem.head _)).1, rfl, _, rfl⟩
      have hyn : ys.length = (xs.toList.filter (wp s.heap ks r)).length := hP.length.symm
      have hyl : ys.length ≤ 100 := by rw [hyn]; exact Nat.le_trans (List.length_filter_le _ _) hxl
      k_steps
      (rename News _ _ _ _ => N9)
      (rename Fr _ _ _ _ => F9)
      (rename (∀ p : Addr × Obj, p ∈ _ → p.1 < _) => l9)
      (((try dsimp only); (repeat (k_unfold; (try dsimp only)))))
      have hlt : s.heap.objs.size + 1 + 1 < _ := ltN (l9 _ (List.mem_of_getElem? (i := 6) rfl))
      refine' tpost_next (nx := [(_, listOf ((((slicePick xs none (some (ys.length : Int)) none).toList ++ #[Value.ref a].toList).toArray.toList ++ (slicePick xs (some (ys.length : Int)) none none).toList).toArray) 0), (s.heap.objs.size + 1 + 1, _), (s.heap.objs.size + 1, o2)]) F9 N9 ?a ?b ?c ?d
      (case d => exact ⟨_, _, _, _, _, rfl, hlt, by assumption, by (dsimp only; exact if_pos rfl), by simpa only [PySem.slicePick_from', PySem.slicePick_upto', List.toList_toArray] using insOk_step hins (List.mem_of_getElem? hv) hri hwr hyn⟩)
      (case a => (intro p hp; k_ownIn))
      (case b =>
        intro p hp
        simp only [List.mem_cons, List.not_mem_nil, or_false] at hp
        rcases hp with rfl | rfl | rfl <;> k_mem)
      (case c =>
        intro p hp
        simp only [List.mem_cons, List.not_mem_nil, or_false] at hp
        rcases hp with rfl | rfl | rfl
        · exact .inl fun h => absurd (Value.type.inj h) (by decide)
        · exact .inr ⟨_, by assumption⟩
        · exact .inr ⟨_, e2⟩))
  · rintro m₁ news₁ h tk ⟨D, xs, k, o, ov, rfl, hD, ho, hm, hins⟩ F1 N1
    rw [fix_fn hm] at F1
    k_steps
    (((try dsimp only); (repeat (k_unfold; (try dsimp only)))))
    exact hQ _ _ 0 _ _ _ (Fr.keep (by assumption)) (N1 _ (List.Mem.head _)).2.2 (N1 _ (List.Mem.head _)).1 (by rw [List.take_of_length_le (Nat.le_of_eq H2.length.symm)] at hins; exact hins.1) hins.2
-- Oc
set_option maxRecDepth 100000 in
set_option maxHeartbeats 4000000 in
theorem unitbound : ∀ {w : World} {mean : ExcName → Option Value} {mg mb : Str → Option Value} {s : Shared} {dp un : Nat} {fr : Option (List Env)} {gd : Option (List Code)} {Q : Value → Shared → Prop} {E : Value → Shared → Prop} {sh d : Addr} {q : HK} {vp : Value} {n : Nat},
   (Mine.hd.heap_39 w.params).In s.heap → Top Mine.hd.view_39 LL mean mg mb s.heap → dp + 1 < recursionLimit → un + 58 < cLine →
   (NumAt s.heap sh d q vp n) →
   (∀ h' tk' (tt : Nat), Ext s.heap h' → Q (.int 100 tt) { s with heap := h', toks := tk' }) →
   wpAny (model Challenge.rw_pc0145_01.row.prog w) ⟨none, dp, fr, gd, un⟩ (call (.ref 129) [.ref sh]) Q E s := by
  k_fill
  intro w mean mg mb s dp un fr gd Q E sh d q vp n X T hd hu H0 hQ
  k_dflt cell_enter
  (try k_fold)
  k_steps
  (((try dsimp only); (repeat (k_unfold; (try dsimp only)))))
  refine' q_end (hQ _ _ ?tt (Fr.keep (by assumption))) ?e
  case e => rfl
local macro_rules | `(tactic| walk_at "call ref") => `(tactic| (k_here; (with_reducible show wpAny _ _ (call (Value.ref 129) _ _) _ _ _); k_dflt (refine' unitbound ?kX ?kT ?kD ?kU ?h0 ?_; (case kX => k_in); (case kT => walk_at "htop"); (case kD => walk_at "hroom"); (case kU => walk_at "hroom"); (case h0 => walk_at "hnum"); k_whole); walk_at "hbehind"))
set_option maxRecDepth 100000 in
set_option maxHeartbeats 4000000 in
theorem keptunits : ∀ {w : World} {mean : ExcName → Option Value} {mg mb : Str → Option Value} {s : Shared} {dp un : Nat} {fr : Option (List Env)} {gd : Option (List Code)} {Q : Value → Shared → Prop} {E : Value → Shared → Prop} {sh d : Addr} {q : HK} {vp : Value} {n : Nat} {u : Int} {tu : Nat},
   (Mine.hd.heap_39 w.params).In s.heap → Top Mine.hd.view_39 LL mean mg mb s.heap → dp + 2 < recursionLimit → un + 66 < cLine →
   (NumAt s.heap sh d q vp n) →
   (u = -1 ∨ u = 1 ∨ u = 0 ∨ u = -10) →
   (∀ h' tk' (tt : Nat), Ext s.heap h' → Q (.int u tt) { s with heap := h', toks := tk' }) →
   wpAny (model Challenge.rw_pc0145_01.row.prog w) ⟨none, dp, fr, gd, un⟩ (call (.ref 184) [.ref sh, .int u tu]) Q E s := by
  k_fill
  intro w mean mg mb s dp un fr gd Q E sh d q vp n u tu X T hd hu H0 H1 hQ
  rcases H1 with rfl | rfl | rfl | rfl
  all_goals
    k_dflt cell_enter
    (try k_fold)
    k_steps
    (((try dsimp only); (repeat (k_unfold; (try dsimp only)))))
    refine' q_end (hQ _ _ _ (Fr.keep (by assumption))) ?_
    rotate_left
    refine int_eq ?_
    decide +kernel
set_option maxRecDepth 100000 in
set_option maxHeartbeats 4000000 in
theorem figsfor : ∀ {w : World} {mean : ExcName → Option Value} {mg mb : Str → Option Value} {s : Shared} {dp un : Nat} {fr : Option (List Env)} {gd : Option (List Code)} {Q : Value → Shared → Prop} {E : Value → Shared → Prop} {u : Int} {tu tv : Nat},
   (Mine.hd.heap_39 w.params).In s.heap → Top Mine.hd.view_39 LL mean mg mb s.heap → dp + 1 < recursionLimit → un + 58 < cLine →
   (u = 0 ∨ u = 1 ∨ u = 10) →
   (∀ h' tk' (tt : Nat) D n t1 t2, Ext s.heap h' → s.heap.get? D = none → h'.get? D = some (listOf #[.int (u / 10) t1, .int (u % 10) t2] n) → Q (.ref D) { s with heap := h', toks := tk' }) →
   wpAny (model Challenge.rw_pc0145_01.row.prog w) ⟨none, dp, fr, gd, un⟩ (call (.ref 191) [.int u tu, .int 2 tv]) Q E s := by
  k_fill
  intro w mean mg mb s dp un fr gd Q E u tu tv X T hd hu H0 hQ
  rcases H0 with rfl | rfl | rfl
  all_goals
    k_dflt cell_enter
    (try k_fold)
    k_steps
    (((try dsimp only); (repeat (k_unfold; (try dsimp only)))))
    (rename News _ _ _ _ => N9)
    have hm := news_at N9 (List.mem_of_getElem? (i := 0) rfl)
    refine' q_end (hQ _ _ 0 _ _ _ _ (Fr.keep (by assumption)) (N9 _ (List.mem_of_getElem? (i := 0) rfl)).2.2 hm) rfl
local macro_rules | `(tactic| walk_at "ff_behind") => `(tactic| (intro h' tk' tt D n t1 t2 hx hnone hD; (try dsimp only at hx hnone hD); (have F' := fr_ext (by assumption) hx); (have N' := news_ext (by assumption) hx); (have N'' := news_add (by assumption) (by assumption) hx hnone hD); (try k_sweep); clear N'; (try dsimp only)))
local macro_rules | `(tactic| walk_at "call ref") => `(tactic| (k_here; (with_reducible show wpAny _ _ (call (Value.ref 191) _ _) _ _ _); k_dflt (refine' figsfor ?kX ?kT ?kD ?kU ?h0 ?_; (case kX => k_in); (case kT => walk_at "htop"); (case kD => walk_at "hroom"); (case kU => walk_at "hroom"); (case h0 => decide +kernel); k_whole); walk_at "ff_behind"))
local macro_rules | `(tactic| walk_at "call ref") => `(tactic| (k_here; (with_reducible show wpAny _ _ (call (Value.ref 184) _ _) _ _ _); k_dflt (refine' keptunits ?kX ?kT ?kD ?kU ?h0 ?h1 ?_; (case kX => k_in); (case kT => walk_at "htop"); (case kD => walk_at "hroom"); (case kU => walk_at "hroom"); (case h0 => walk_at "hnum"); (case h1 => (first | assumption | decide +kernel)); k_whole); walk_at "hbehind"))
theorem two_list {h : Heap} {D : Addr} {a b c d : Int} {t1 t2 : Tok} {n : Nat} (hm : h.get? D = some (listOf #[.int a t1, .int b t2] n)) (ea : a = c) (eb : b = d) : h.IsList D [Value.int c t1, .int d t2].toArray := by
  subst ea eb
  exact ⟨_, hm, rfl, _, rfl⟩
set_option maxRecDepth 100000 in
set_option maxHeartbeats 4000000 in
theorem dispoct : ∀ {w : World} {mean : ExcName → Option Value} {mg mb : Str → Option Value} {s : Shared} {dp un : Nat} {fr : Option (List Env)} {gd : Option (List Code)} {Q : Value → Shared → Prop} {E : Value → Shared → Prop} {sh d : Addr} {q : HK} {vp : Value} {n : Nat} {u : Int} {tu : Nat},
   (Mine.hd.heap_39 w.params).In s.heap → Top Mine.hd.view_39 LL mean mg mb s.heap → dp + 3 < recursionLimit → un + 74 < cLine →
   (NumAt s.heap sh d q vp n) →
   (u = -1 ∨ u = 1 ∨ u = 0 ∨ u = -10) →
   (∀ h' tk' (tt : Nat) a b, Ext s.heap h' → dec a b u → Q (.bytes #[a, b] tt) { s with heap := h', toks := tk' }) →
   wpAny (model Challenge.rw_pc0145_01.row.prog w) ⟨none, dp, fr, gd, un⟩ (call (.ref 196) [.ref sh, .int u tu]) Q E s := by
  k_fill
  intro w mean mg mb s dp un fr gd Q E sh d q vp n u tu X T hd hu H0 H1 hQ
  rcases H1 with rfl | rfl | rfl | rfl
  · k_dflt cell_enter
    (try k_fold)
    k_steps
    (rename News _ _ _ _ => N9)
    (rename Fr _ _ _ _ => F9)
    have hm := (N9 _ (List.mem_of_getElem? (i := 0) rfl)).1
    refine call_bytes_ints (ns := [48, 74]) (two_list hm (by decide +kernel) (by decide +kernel)) (.cons _ _ (.cons _ _ .nil)) (by decide) (by exact (by decide : 2 ≤ sizeLine)) rfl ?_
    intro h' t k hk
    (((try dsimp only); (repeat (k_unfold; (try dsimp only)))))
    refine q_end (hQ _ _ _ 48 74 (fun b o e => hk _ _ (F9.keep _ _ e)) (.inl ⟨rfl, rfl, rfl⟩)) (bytes_eq rfl)
  · k_dflt cell_enter
    (try k_fold)
    k_steps
    (rename News _ _ _ _ => N9)
    (rename Fr _ _ _ _ => F9)
    have hm := (N9 _ (List.mem_of_getElem? (i := 0) rfl)).1
    refine call_bytes_ints (ns := [48, 65]) (two_list hm (by decide +kernel) (by decide +kernel)) (.cons _ _ (.cons _ _ .nil)) (by decide) (by exact (by decide : 2 ≤ sizeLine)) rfl ?_
    intro h' t k hk
    (((try dsimp only); (repeat (k_unfold; (try dsimp only)))))
    refine q_end (hQ _ _ _ 48 65 (fun b o e => hk _ _ (F9.keep _ _ e)) (.inr (.inl ⟨rfl, rfl, rfl⟩))) (bytes_eq rfl)
  · k_dflt cell_enter
    (try k_fold)
    k_steps
    (rename News _ _ _ _ => N9)
    (rename Fr _ _ _ _ => F9)
    have hm := (N9 _ (List.mem_of_getElem? (i := 0) rfl)).1
    refine call_bytes_ints (ns := [48, 123]) (two_list hm (by decide +kernel) (by decide +kernel)) (.cons _ _ (.cons _ _ .nil)) (by decide) (by exact (by decide : 2 ≤ sizeLine)) rfl ?_
    intro h' t k hk
    (((try dsimp only); (repeat (k_unfold; (try dsimp only)))))
    refine q_end (hQ _ _ _ 48 123 (fun b o e => hk _ _ (F9.keep _ _ e)) (.inr (.inr (.inl ⟨rfl, rfl, rfl⟩)))) (bytes_eq rfl)
  · k_dflt cell_enter
    (try k_fold)
    k_steps
    (rename News _ _ _ _ => N9)
    (rename Fr _ _ _ _ => F9)
    have hm := (N9 _ (List.mem_of_getElem? (i := 0) rfl)).1
    refine call_bytes_ints (ns := [49, 125]) (two_list hm (by decide +kernel) (by decide +kernel)) (.cons _ _ (.cons _ _ .nil)) (by decide) (by exact (by decide : 2 ≤ sizeLine)) rfl ?_
    intro h' t k hk
    (((try dsimp only); (repeat (k_unfold; (try dsimp only)))))
    refine q_end (hQ _ _ _ 49 125 (fun b o e => hk _ _ (F9.keep _ _ e)) (.inr (.inr (.inr ⟨rfl, rfl, rfl⟩)))) (bytes_eq rfl)
local macro_rules | `(tactic| walk_at "oc_behind") => `(tactic| (intro h' tk' tt a b hx hdec; (try dsimp only at hx); (have F' := fr_ext (by assumption) hx); (have N' := news_ext (by assumption) hx); (try k_sweep); (try dsimp only)))
local macro_rules | `(tactic| walk_at "call ref") => `(tactic| (k_here; (with_reducible show wpAny _ _ (call (Value.ref 196) _ _) _ _ _); k_dflt (refine' dispoct ?kX ?kT ?kD ?kU ?h0 ?h1 ?_; (case kX => k_in); (case kT => walk_at "htop"); (case kD => walk_at "hroom"); (case kU => walk_at "hroom"); (case h0 => walk_at "hnum"); (case h1 => (first | assumption | decide +kernel)); k_whole); walk_at "oc_behind"))
set_option maxRecDepth 100000 in
set_option maxHeartbeats 4000000 in
theorem octetsfor : ∀ {w : World} {mean : ExcName → Option Value} {mg mb : Str → Option Value} {s : Shared} {dp un : Nat} {fr : Option (List Env)} {gd : Option (List Code)} {Q : Value → Shared → Prop} {E : Value → Shared → Prop} {sh d : Addr} {q : HK} {vp : Value} {n : Nat} {u : Int} {tu : Nat},
   (Mine.hd.heap_39 w.params).In s.heap → Top Mine.hd.view_39 LL mean mg mb s.heap → dp + 4 < recursionLimit → un + 82 < cLine →
   (NumAt s.heap sh d q vp n) →
   (u = -1 ∨ u = 1 ∨ u = 0 ∨ u = -10) →
   (∀ h' tk' (tt : Nat) a b, Ext s.heap h' → dec a b u → Q (.bytes #[a, b] tt) { s with heap := h', toks := tk' }) →
   wpAny (model Challenge.rw_pc0145_01.row.prog w) ⟨none, dp, fr, gd, un⟩ (call (.ref 215) [.ref sh, .int u tu]) Q E s := by
  k_fill
  intro w mean mg mb s dp un fr gd Q E sh d q vp n u tu X T hd hu H0 H1 hQ
  k_dflt cell_enter
  (try k_fold)
  k_steps
  (((try dsimp only); (repeat (k_unfold; (try dsimp only)))))
  exact hQ _ _ _ _ _ (Fr.keep (by assumption)) (by assumption)
local macro_rules | `(tactic| walk_at "call ref") => `(tactic| (k_here; (with_reducible show wpAny _ _ (call (Value.ref 215) _ _) _ _ _); k_dflt (refine' octetsfor ?kX ?kT ?kD ?kU ?h0 ?h1 ?_; (case kX => k_in); (case kT => walk_at "htop"); (case kD => walk_at "hroom"); (case kU => walk_at "hroom"); (case h0 => walk_at "hnum"); (case h1 => (first | assumption | decide +kernel)); k_whole); walk_at "oc_behind"))
local macro_rules | `(tactic| walk_at "asz") => `(tactic| ((try simp only [List.size_toArray, List.length_cons, List.length_nil]); omega))
local macro_rules | `(tactic| walk_at "binaryOp Mult bytes int") => `(tactic| (k_here; (with_reducible show wpAny _ _ (binaryOp Operator.Mult (Value.bytes (List.toArray _) _) (Value.int _ _)) _ _ _); k_dflt (refine' bytes_mul_any ?b ?h1 ?hn ?hs ?_; (case b => exact List.cons_ne_nil _ _); (case h1 => walk_at "asz"); (case hn => walk_at "asz"); (case hs => exact (by decide : (1 : Nat) ≤ 16)); k_whole; intro _ _)))
set_option maxRecDepth 100000 in
set_option maxHeartbeats 4000000 in
theorem fittedc : ∀ {w : World} {mean : ExcName → Option Value} {mg mb : Str → Option Value} {s : Shared} {dp un : Nat} {fr : Option (List Env)} {gd : Option (List Code)} {Q : Value → Shared → Prop} {E : Value → Shared → Prop} {r : Row} {k : Int} {tr tk : Nat},
   (Mine.hd.heap_39 w.params).In s.heap → Top Mine.hd.view_39 LL mean mg mb s.heap → dp + 1 < recursionLimit → un + 58 < cLine →
   (0 ≤ k ∧ k < 7) →
   (∀ h' tk' (tt : Nat), Ext s.heap h' → Q (.bytes ((r.oct.toList ++ [32, 32, 32, 32, 32, 32, 32]).take k.toNat).toArray tt) { s with heap := h', toks := tk' }) →
   wpAny (model Challenge.rw_pc0145_01.row.prog w) ⟨none, dp, fr, gd, un⟩ (call (.ref 297) [.bytes r.oct tr, .int k tk]) Q E s := by
  k_fill
  intro w mean mg mb s dp un fr gd Q E r k tr tk X T hd hu H0 hQ
  have hk : k = 0 ∨ k = 1 ∨ k = 2 ∨ k = 3 ∨ k = 4 ∨ k = 5 ∨ k = 6 := by omega
  clear H0
  obtain ⟨rt, ra, rb, rn, rw, rok⟩ := r
  simp only [Row.oct]
  rcases hk with rfl | rfl | rfl | rfl | rfl | rfl | rfl
  all_goals
    k_dflt cell_enter
    (try k_fold)
    k_steps
    (((try dsimp only); (repeat (k_unfold; (try dsimp only)))))

    refine' q_end (hQ _ _ _ (Fr.keep (by assumption))) ?_
    rotate_left
    first | exact bytes_eq rfl | exact bytes_eq (by kernel_rfl)
-- Pl
/-! the plain law -/
variable {lt : Row → Row → Bool}
structure Ord (lt : Row → Row → Bool) : Prop where
  irr : ∀ x, lt x x = false
  tr : ∀ {x y z}, lt y x = false → lt z y = false → lt z x = false
  as : ∀ {x y}, lt x y = true → lt y x = false
def Srt (lt : Row → Row → Bool) (l : List Row) : Prop := l.Pairwise fun x y => lt y x = false
def ins (lt : Row → Row → Bool) : List Row → Row → List Row
  | [], y => [y]
  | x :: xs, y => if lt y x then y :: x :: xs else x :: ins lt xs y
theorem ins_mem {f : List Row} {y z : Row} (h : z ∈ ins lt f y) : z = y ∨ z ∈ f := by
  induction f with
  | nil => simpa [ins] using h
  | cons x xs ih =>
    rw [ins] at h
    split at h
    · simpa using h
    · rcases List.mem_cons.mp h with rfl | h
      · exact .inr (List.mem_cons_self ..)
      · rcases ih h with h | h
        · exact .inl h
        · exact .inr (List.mem_cons_of_mem _ h)
theorem ins_srt (o : Ord lt) {f : List Row} {y : Row} (h : Srt lt f) : Srt lt (ins lt f y) := by
  induction f with
  | nil => simp [ins, Srt]
  | cons x xs ih =>
    obtain ⟨h1, h2⟩ := List.pairwise_cons.mp h
    rw [ins]
    split
    · rename_i c
      refine List.pairwise_cons.mpr ⟨fun z hz => ?_, h⟩
      rcases List.mem_cons.mp hz with rfl | hz
      · exact o.as c
      · exact o.tr (o.as c) (h1 z hz)
    · rename_i c
      refine List.pairwise_cons.mpr ⟨fun z hz => ?_, ih h2⟩
      rcases ins_mem hz with rfl | hz
      · simpa using c
      · exact h1 z hz
theorem insL_ins (o : Ord lt) {f : List Row} {y : Row} (h : Srt lt f) : insL lt f y = ins lt f y := by
  induction f with
  | nil => simp [insL, ins]
  | cons x xs ih =>
    obtain ⟨h1, h2⟩ := List.pairwise_cons.mp h
    rw [ins]
    split
    · rename_i c
      have e : ((x :: xs).filter fun z => !lt y z) = [] := by
        rw [List.filter_eq_nil_iff]
        intro z hz
        rcases List.mem_cons.mp hz with rfl | hz
        · simp [c]
        · cases hc : lt y z with
          | true => simp
          | false =>
            have := o.tr (h1 z hz) hc
            rw [this] at c; cases c
      simp [insL, e]
    · rename_i c
      have c' : lt y x = false := by simpa using c
      rw [← ih h2]
      simp [insL, c']
theorem fold_ins_srt (o : Ord lt) : ∀ (ys : List Row) {f : List Row}, Srt lt f → Srt lt (ys.foldl (ins lt) f)
  | [], _, h => h
  | y :: ys, f, h => by rw [List.foldl_cons]; exact fold_ins_srt o ys (ins_srt o h)
theorem fold_insL (o : Ord lt) : ∀ {ys f : List Row}, Srt lt f → ys.foldl (insL lt) f = ys.foldl (ins lt) f
  | [], _, _ => rfl
  | y :: ys, f, h => by rw [List.foldl_cons, List.foldl_cons, insL_ins o h]; exact fold_insL o (ins_srt o h)
theorem insAll_srt (o : Ord lt) {l : List Row} : Srt lt (insAll lt l) := by
  rw [insAll, fold_insL o List.Pairwise.nil]
  exact fold_ins_srt o _ List.Pairwise.nil
theorem fold_past {x : Row} : ∀ {ys f : List Row}, (∀ y ∈ ys, lt y x = false) → ys.foldl (ins lt) (x :: f) = x :: ys.foldl (ins lt) f
  | [], _, _ => rfl
  | y :: ys, f, h => by
    rw [List.foldl_cons, ins, if_neg (by rw [h y (List.mem_cons_self ..)]; decide), fold_past fun z hz => h z (List.mem_cons_of_mem _ hz), List.foldl_cons]
theorem fold_merge (o : Ord lt) (f ys : List Row) : Srt lt ys → ys.foldl (ins lt) f = mergeL lt f ys := by
  induction f, ys using mergeL.induct lt with
  | case1 ys =>
    intro h
    rw [mergeL]
    induction ys with
    | nil => rfl
    | cons y ys ih =>
      obtain ⟨h1, h2⟩ := List.pairwise_cons.mp h
      rw [List.foldl_cons, ins, fold_past h1, ih h2]
  | case2 x xs => intro _; simp [mergeL]
  | case3 x xs y ys c ih =>
    intro h
    obtain ⟨h1, h2⟩ := List.pairwise_cons.mp h
    rw [mergeL, if_pos c, List.foldl_cons, ins, if_pos c, fold_past h1, ih h2]
  | case4 x xs y ys c ih =>
    intro h
    obtain ⟨h1, h2⟩ := List.pairwise_cons.mp h
    have c' : lt y x = false := by simpa using c
    rw [mergeL, if_neg c, List.foldl_cons, ins, if_neg c, fold_past fun z hz => o.tr c' (h1 z hz)]
    rw [← ih h]
    rfl
theorem ahead_ord : ∀ (ks : List (Bool × Bool)), Ord (aheadL ks)
  | [] => ⟨fun _ => rfl, fun _ _ => rfl, fun h => by cases h⟩
  | k :: ks => by
    have o := ahead_ord ks
    refine ⟨fun x => ?_, fun {x y z} h1 h2 => ?_, fun {x y} h => ?_⟩
    · rw [aheadL, if_pos rfl]; exact o.irr x
    · rw [aheadL] at h1 h2 ⊢
      generalize kv k.2 x = a at *
      generalize kv k.2 y = b at *
      generalize kv k.2 z = c at *
      by_cases e1 : b = a
      · by_cases e2 : c = b
        · rw [if_pos e1] at h1
          rw [if_pos e2] at h2
          rw [if_pos (e2.trans e1)]
          exact o.tr h1 h2
        · rw [if_neg e2] at h2
          rw [if_neg (e1 ▸ e2), ← e1]
          exact h2
      · by_cases e2 : c = b
        · rw [if_neg e1] at h1
          rw [if_neg (e2 ▸ e1), e2]
          exact h1
        · rw [if_neg e1] at h1
          rw [if_neg e2] at h2
          cases hk : k.1
          · rw [hk] at h1 h2
            simp at h1 h2
            rw [if_neg (by omega)]
            simp
            omega
          · rw [hk] at h1 h2
            simp at h1 h2
            rw [if_neg (by omega)]
            simp
            omega
    · rw [aheadL] at h ⊢
      generalize kv k.2 x = a at *
      generalize kv k.2 y = b at *
      by_cases e1 : a = b
      · rw [if_pos e1] at h
        rw [if_pos e1.symm]
        exact o.as h
      · rw [if_neg e1] at h
        rw [if_neg (Ne.symm e1)]
        cases hk : k.1
        · rw [hk] at h
          simp at h ⊢
          omega
        · rw [hk] at h
          simp at h ⊢
          omega
theorem merge_nil (xs : List Row) : mergeL lt [] xs = xs := by rw [mergeL]
theorem nil_merge (xs : List Row) : mergeL lt xs [] = xs := by cases xs <;> rw [mergeL]
/-- the merge of lists in order is the insertion of all -/
theorem merge_ins (o : Ord lt) {a b c d : List Row} (ha : Srt lt a) (hb : Srt lt b) (hc : Srt lt c) (hd : Srt lt d) : [a, b, c, d].foldl (mergeL lt) [] = insAll lt (a ++ b ++ c ++ d) := by
  rw [insAll, fold_insL o List.Pairwise.nil, List.foldl_append, List.foldl_append, List.foldl_append]
  simp only [List.foldl_cons, List.foldl_nil]
  rw [fold_merge o _ _ ha, fold_merge o _ _ hb, fold_merge o _ _ hc, fold_merge o _ _ hd]
theorem srt_at {l : List Row} (h : Srt lt l) (i : Nat) (hi : i + 1 < l.length) : lt l[i + 1] l[i] = false := List.pairwise_iff_getElem.mp h i (i + 1) (by omega) hi (by omega)
-- Cj
section
variable {prog : Program} {w : World} {A : Around} {E : Value → Shared → Prop} {s : Shared} {R : Result → Shared → Prop}
theorem compLoop_any {elt target iter : Expr} {ifs : List Expr} {scope : Scope} {pos : Pos} {it acc : Value} {env : Env} (I : Nat → Shared → Prop)
    (turn : ∀ n s, I n s → wpAny (model prog w) A (pyNext it) (fun r s₁ => match r with
      | none => R (.ok .next) s₁
      | some v => wpAny (model prog w) A (letOwnedTupleGo target it v) (fun _ s₁' => wpAny (model prog w) A (assign target env v) (fun _ s₂ =>
          wpAny (model prog w) A (forIn ifs true fun c r => if r = true then do let ok ← isTrue c env (eval c env); pure (ForInStep.yield ok) else pure (ForInStep.yield r)) (fun ok s₃ =>
            if ok = true then wpAny (model prog w) A (eval elt env) (fun x s₄ =>
              wpAny (model prog w) A (call (.builtin "list.append") [acc, x]) (fun _ s₅ => ∃ m, m < n ∧ I m s₅) (notedBy (model prog w) A env fun e s' => R (.error e) s') s₄) (notedBy (model prog w) A env fun e s' => R (.error e) s') s₃
            else ∃ m, m < n ∧ I m s₃) (notedBy (model prog w) A env fun e s' => R (.error e) s') s₂) (notedBy (model prog w) A env fun e s' => R (.error e) s') s₁') (notedBy (model prog w) A env fun e s' => R (.error e) s') s₁) (notedBy (model prog w) A env fun e s' => R (.error e) s') s)
    (n : Nat) (h : I n s) :
    codeAny (model prog w) A (.compLoop (.ListComp elt [⟨target, iter, ifs, 0⟩] scope pos) 0 it acc env) R s := by
  refine codeAny_loop rfl I (fun n s hI => ?_) n h
  show wpAny _ A ((compTurn (.ListComp elt [⟨target, iter, ifs, 0⟩] scope pos) 0 it acc env).onRaise (fun x => do noteFrame x env; theTreesLotGoes x)) _ _ s
  refine wpAny_noted ?_
  rw [compTurn_list]
  refine wpAny_bind (wpAny_standAt (wpAny_bind (wpAny_mono (turn n s hI) (fun r s₁ h₁ => ?_) fun _ _ h' => h')))
  cases r with
  | none => exact wpAny_pure h₁
  | some v =>
    refine wpAny_bind (wpAny_mono h₁ (fun _ s₁' h₁' => ?_) fun _ _ h' => h')
    refine wpAny_bind (wpAny_mono h₁' (fun _ s₂ h₂ => wpAny_bind (wpAny_mono h₂ (fun ok s₃ h₃ => ?_) fun _ _ h' => h')) fun _ _ h' => h')
    cases ok with
    | false => exact wpAny_pure ⟨rfl, h₃⟩
    | true => exact wpAny_bind (wpAny_bind (wpAny_mono h₃ (fun x s₄ h₄ => wpAny_bind (wpAny_mono h₄ (fun _ s₅ h₅ => wpAny_pure (wpAny_pure ⟨rfl, h₅⟩)) fun _ _ h' => h')) fun _ _ h' => h'))
def NI2 (o : Obj) : Prop := (o.cls ≠ .type "list_iterator" ∧ o.cls ≠ .type "enumerate") ∨ ∃ v, o.data = .cell v
theorem NI2.ni {o : Obj} (h : NI2 o) : NotIter o := h.imp (fun x => x.1) id
/-- behind a comprehension's turn -/
def JPost (h₀ : Heap) (C D L : Addr) (own : List (Addr × Obj)) (J : List (Addr × Obj) → Prop) (s s₂ : Shared) : Prop :=
  ∃ h' tk m' news' nx, s₂ = { s with heap := h', toks := tk } ∧ Fr h₀ C h' m' ∧ News h₀ C h' news' ∧ (∀ p ∈ own, p ∈ news') ∧ (∀ p ∈ nx, p ∈ news') ∧ (∀ p ∈ nx, NotIter p.2 ∧ p.1 ≠ D ∧ p.1 ≠ L) ∧ J nx
theorem jpost {h₀ h' : Heap} {C D L : Addr} {own news' nx : List (Addr × Obj)} {m' : Str → Option Value} {J : List (Addr × Obj) → Prop} {tk : Nat} (F : Fr h₀ C h' m') (N : News h₀ C h' news') (hn : ∀ p ∈ own, p ∈ news') (hx : ∀ p ∈ nx, p ∈ news')
    (hc : ∀ p ∈ nx, NotIter p.2 ∧ p.1 ≠ D ∧ p.1 ≠ L) (hj : J nx) : JPost h₀ C D L own J s { s with heap := h', toks := tk } := ⟨h', tk, m', news', nx, rfl, F, N, hn, hx, hc, hj⟩
theorem comp_J_block {elt iter target : Expr} {ifs : List Expr} {scope : Scope} {cl : List (Str × Addr)} {pos : Pos} {env : Env} {RR : Value → Addr → Result → Shared → Prop} {s₁ : Shared}
    {J : Nat → List Value → List (Addr × Obj) → Prop} {h₀ : Heap} {L : Addr} {m : Str → Option Value} {news : List (Addr × Obj)} {l : Addr} {vs : List Value}
    (hh : A.handled = none) (hcell : ∀ y ∈ scope.names, y.2 ≠ .cell) (hkind : scope.kind = .function)
    (hsrc : ∀ i ys nx, J i ys nx → LCg.SrcAt h₀ l vs.toArray nx) (hsz : vs.length ≤ sizeLine) (F : Fr h₀ L s₁.heap m) (N : News h₀ L s₁.heap news) (hnc : ∀ p ∈ news, NotIter p.2) (hJ0 : J 0 [] news)
    (hgo : ∀ (s' : Shared) (I : Addr) i v (Q' : Unit → Shared → Prop) (E' : Value → Shared → Prop), v ∈ vs → s'.heap.IsListIter I l i → Q' () s' → wpAny (model prog w) A (letOwnedTupleGo target (.ref I) v) Q' E' s')
    (turn : ∀ i v ys nx C D I oI oL h tk (m₂ : Str → Option Value) (E' : Value → Shared → Prop), vs[i]? = some v → J i ys nx → (ys.length ≤ i ∧ ∃ es n, oL.data = .dict es n) → Fr h₀ (compEnvC scope cl C env).locals h m₂ → News h₀ (compEnvC scope cl C env).locals h (nx ++ [(I, oI), (D, LCg.lst ys), (L, oL)]) → (∀ p ∈ nx, p.1 ≠ D ∧ p.1 ≠ L) →
      wpAny (model prog w) A (assign target (compEnvC scope cl C env) v) (fun _ s₂ =>
        wpAny (model prog w) A (forIn ifs true fun c r => if r = true then do let ok ← isTrue c (compEnvC scope cl C env) (eval c (compEnvC scope cl C env)); pure (ForInStep.yield ok) else pure (ForInStep.yield r)) (fun ok s₃ =>
          if ok = true then wpAny (model prog w) A (eval elt (compEnvC scope cl C env)) (fun y s₄ => JPost h₀ (compEnvC scope cl C env).locals D L [(I, oI), (D, LCg.lst ys), (L, oL)] (J (i + 1) (ys ++ [y])) { s₁ with heap := h, toks := tk } s₄) E' s₃
          else JPost h₀ (compEnvC scope cl C env).locals D L [(I, oI), (D, LCg.lst ys), (L, oL)] (J (i + 1) ys) { s₁ with heap := h, toks := tk } s₃) E' s₂) E' { s₁ with heap := h, toks := tk })
    (hRR : ∀ D C h' tk m₂ (ys : List Value) nx, J vs.length ys nx → ys.length ≤ vs.length → s₁.heap.get? D = none → Fr h₀ C h' m₂ → Fr h₀ L h' m → News h₀ L h' ((D, LCg.lst ys) :: nx) → C ≠ L → C ≠ D → h₀.get? C = none → (∀ p ∈ nx, p.1 ≠ C) → RR (.ref D) C (.ok .next) { s₁ with heap := h', toks := tk }) :
    wpAny (model prog w) A (pyIter (.ref l)) (fun it s₂ => wpAny (model prog w) A (newList []) (fun acc s₃ => wpAny (model prog w) A (newFunctionEnv scope env.globals cl [] env.qual none .none (some env)) (fun cenv s₄ =>
      codeAny (model prog w) A (.compStart (.ListComp elt [⟨target, iter, ifs, 0⟩] scope pos) 0 it acc { cenv with scope := relabel scope env }) (RR acc cenv.locals) s₄) E s₃) E s₂) E s₁ := by
  have hl : s₁.heap.IsList l vs.toArray := (hsrc _ _ _ hJ0).list F.keep N
  have hlt : l < s₁.heap.objs.size := by obtain ⟨_, e, _⟩ := hl; exact Heap.lt_size e
  refine wpAny_pyIter_list hl ?_
  refine wpAny_newObj_type (wpAny_newFunctionEnv hcell (by intro y hy; simp at hy) (fun h₁ hns₁ hsb₁ => ?_) hkind)
  dsimp only at hns₁ hsb₁ ⊢
  generalize hH1 : s₁.heap.push { cls := .type "list_iterator", data := .fields #[.ref l, .int 0 0] } = H1 at hns₁ hsb₁ ⊢
  generalize hH2 : H1.push { cls := .type "list", dict := none, data := .seq ([] : List Value).toArray } = H2 at hns₁ hsb₁ ⊢
  have z1 : H1.objs.size = s₁.heap.objs.size + 1 := by rw [← hH1, Heap.size_push]
  have z2 : H2.objs.size = s₁.heap.objs.size + 2 := by rw [← hH2, Heap.size_push, z1]
  have up1 : ∀ b o, s₁.heap.get? b = some o → H1.get? b = some o := fun b o e => hH1 ▸ Heap.get?_push_of_some _ e
  have up2 : ∀ b o, H1.get? b = some o → H2.get? b = some o := fun b o e => hH2 ▸ Heap.get?_push_of_some _ e
  have up3 : ∀ b o, b < H2.objs.size → H2.get? b = some o → h₁.get? b = some o := fun b o hb e => hsb₁.extBut b o (Nat.ne_of_lt hb) (Heap.get?_push_of_some _ e)
  have old : ∀ b o, s₁.heap.get? b = some o → h₁.get? b = some o := fun b o e => up3 b o (Nat.lt_of_lt_of_le (Heap.lt_size e) (by omega)) (up2 b o (up1 b o e))
  have gI : h₁.get? s₁.heap.objs.size = some { cls := .type "list_iterator", data := .fields #[.ref l, .int 0 0] } := up3 _ _ (by omega) (up2 _ _ (hH1 ▸ Heap.get?_push_size _ rfl))
  have gD : h₁.get? H1.objs.size = some (LCg.lst []) := up3 _ _ (by omega) (hH2 ▸ Heap.get?_push_size _ rfl)
  have fresh₀ : ∀ a, s₁.heap.objs.size ≤ a → h₀.get? a = none := fun a ha => by
    cases e : h₀.get? a with
    | none => rfl
    | some o' => exact absurd (Heap.lt_size (F.keep a o' e)) (Nat.not_lt.mpr ha)
  have hDn : s₁.heap.get? H1.objs.size = none := by
    cases e : s₁.heap.get? H1.objs.size with
    | none => rfl
    | some o' => exact absurd (Heap.lt_size e) (Nat.not_lt.mpr (Nat.le_of_lt (by omega : s₁.heap.objs.size < H1.objs.size)))
  obtain ⟨oL, goL, nsL⟩ := LCg.ns_obj F.ns
  have odict : ∃ es n, oL.data = .dict es n := by
    obtain ⟨es, ep, e, _⟩ := id nsL
    exact ⟨es, ep, e⟩
  have hLlt : L < s₁.heap.objs.size := F.ns.lt
  have hL₀ : h₀.get? L = none := Heap.get?_none_of_le F.above
  have offN : ∀ p ∈ news, p.1 < s₁.heap.objs.size := fun p hp => Heap.lt_size (N p hp).1
  have hlI : l ≠ s₁.heap.objs.size := Nat.ne_of_lt hlt
  have hDI : H1.objs.size ≠ s₁.heap.objs.size := by omega
  have hCI : H2.objs.size ≠ s₁.heap.objs.size := by omega
  have hCD : H2.objs.size ≠ H1.objs.size := by omega
  have hLI : L ≠ s₁.heap.objs.size := Nat.ne_of_lt hLlt
  have hLD : L ≠ H1.objs.size := Nat.ne_of_lt (Nat.lt_of_lt_of_le hLlt (by omega))
  have hLC : L ≠ H2.objs.size := Nat.ne_of_lt (Nat.lt_of_lt_of_le hLlt (by omega))
  have aboveC : h₀.objs.size ≤ H2.objs.size := Nat.le_trans F.above (Nat.le_trans (Nat.le_of_lt hLlt) (by omega))
  have hI₀ : h₀.get? s₁.heap.objs.size = none := fresh₀ _ (Nat.le_refl _)
  have hD₀ : h₀.get? H1.objs.size = none := fresh₀ _ (by omega)
  have hC₀ : h₀.get? H2.objs.size = none := fresh₀ _ (by omega)
  have offD : ∀ p ∈ news, p.1 ≠ H1.objs.size := fun p hp => Nat.ne_of_lt (Nat.lt_of_lt_of_le (offN p hp) (by omega))
  have offC : ∀ p ∈ news, p.1 ≠ H2.objs.size := fun p hp => Nat.ne_of_lt (Nat.lt_of_lt_of_le (offN p hp) (by omega))
  have Lst : ∀ h : Heap, h.get? L = some oL → h.Ns L m := fun h e => nsL.ns e
  generalize s₁.heap.objs.size = I at *
  generalize H1.objs.size = D at *
  generalize H2.objs.size = C at *
  have loop : ∀ s₃ : Shared, s₃ = { s₁ with heap := h₁, toks := s₁.toks + ([] : List (Str × Value)).length } → codeAny (model prog w) A (.compLoop (.ListComp elt [⟨target, iter, ifs, 0⟩] scope pos) 0 (.ref I) (.ref D) (compEnvC scope cl C env)) (RR (.ref D) C) s₃ := by
    rintro s₃ rfl
    refine compLoop_any (fun k s' => ∃ h' tk m₂ nx i ys, s' = { s₁ with heap := h', toks := tk } ∧ h'.IsListIter I l i ∧ Fr h₀ C h' m₂ ∧ h'.get? L = some oL ∧ h'.get? D = some (LCg.lst ys) ∧ News h₀ C h' nx ∧ (∀ p ∈ nx, NotIter p.2 ∧ p.1 ≠ D ∧ p.1 ≠ L) ∧ J i ys nx ∧ ys.length ≤ i ∧ i ≤ vs.length ∧ k = vs.length + 1 - i) ?_ (vs.length + 1)
      ⟨h₁, _, _, news, 0, [], rfl, ⟨_, gI, rfl, rfl⟩, ⟨hns₁, fun b o e => old b o (F.keep b o e), aboveC⟩, old _ _ goL, gD, fun p hp => ⟨old _ _ (N p hp).1, offC p hp, (N p hp).2.2⟩, fun p hp => ⟨hnc p hp, offD p hp, (N p hp).2.1⟩, hJ0, Nat.le_refl _, Nat.zero_le _, rfl⟩
    rintro k s' ⟨h', tk, m₂, nx, i, ys, rfl, hit, F', eL, eD, N', hnx, hJ, hyi, hi, rfl⟩
    have hl' : h'.IsList l vs.toArray := (hsrc _ _ _ hJ).list F'.keep N'
    have offI : ∀ p ∈ nx, p.1 ≠ I := fun p hp e => by
      obtain ⟨oI, hoI, hcI, hdI⟩ := hit
      have g := (N' p hp).1
      rw [e, hoI] at g
      rcases (hnx p hp).1 with h | ⟨v, h⟩
      · exact h (by rw [← Option.some.inj g]; exact hcI)
      · rw [← Option.some.inj g, hdI] at h; cases h
    have next : ∀ h₁ : Heap, Heap.ExtBut I h' h₁ → Fr h₀ C h₁ m₂ ∧ News h₀ C h₁ nx ∧ h₁.get? L = some oL ∧ h₁.get? D = some (LCg.lst ys) := fun h₁ hx =>
      ⟨⟨F'.ns.at' fun o e => hx _ o hCI e, fun b o e => hx b o (fun q => by rw [q, hI₀] at e; cases e) (F'.keep b o e), F'.above⟩, fun p hp => ⟨hx _ _ (offI p hp) (N' p hp).1, (N' p hp).2⟩, hx _ _ hLI eL, hx _ _ hDI eD⟩
    by_cases hlt' : i < vs.length
    · refine wpAny_pyNext_list_item hit hl' (x := vs[i]) (by simp [hlt']) fun h₁ hit₁ hs₁ => ?_
      obtain ⟨F₂, N₂, eL₂, eD₂⟩ := next h₁ hs₁.extBut
      obtain ⟨oI, hoI, hcI, hdI⟩ := id hit₁
      refine hgo _ I (i + 1) _ _ _ (List.getElem_mem hlt') hit₁ ?_
      have N₃ : News h₀ C h₁ (nx ++ [(I, oI), (D, LCg.lst ys), (L, oL)]) := fun p hp => by
        rcases List.mem_append.mp hp with hp | hp
        · exact N₂ p hp
        · simp only [List.mem_cons, List.not_mem_nil, or_false] at hp
          rcases hp with rfl | rfl | rfl
          · exact ⟨hoI, Ne.symm hCI, hI₀⟩
          · exact ⟨eD₂, Ne.symm hCD, hD₀⟩
          · exact ⟨eL₂, hLC, hL₀⟩
      refine wpAny_mono (turn i vs[i] ys nx C D I oI oL h₁ tk m₂ _ (by simp [hlt']) hJ ⟨hyi, odict⟩ F₂ N₃ fun p hp => (hnx p hp).2) (fun _ s₂ h₂ => wpAny_mono h₂ (fun ok s₃ h₃ => ?_) fun _ _ e => e) fun _ _ e => e
      cases ok with
      | false =>
        obtain ⟨h₄, tk₄, m₄, news₄, nx₄, rfl, F₄, N₄, ho, hn, hc, hJ₄⟩ := h₃
        exact ⟨vs.length + 1 - (i + 1), by omega, h₄, tk₄, m₄, nx₄, i + 1, ys, rfl, ⟨oI, (N₄ _ (ho _ (List.mem_cons_self ..))).1, hcI, hdI⟩, F₄, (N₄ _ (ho (L, oL) (by simp))).1, (N₄ _ (ho (D, LCg.lst ys) (by simp))).1, fun p hp => N₄ p (hn p hp), hc, hJ₄, by omega, hlt', rfl⟩
      | true =>
        simp only [if_true] at h₃ ⊢
        refine wpAny_mono h₃ (fun y s₄ h₄ => ?_) fun _ _ e => e
        obtain ⟨h₄, tk₄, m₄, news₄, nx₄, rfl, F₄, N₄, ho, hn, hc, hJ₄⟩ := h₄
        have gD₄ := (N₄ (D, LCg.lst ys) (ho _ (by simp))).1
        refine append_at (hsz := by show ys.toArray.size ≤ sizeLine; rw [List.size_toArray]; exact Nat.le_trans hyi (Nat.le_trans hi hsz)) gD₄ fun h₅ hs₅ hD₅ => ?_
        exact ⟨vs.length + 1 - (i + 1), by omega, h₅, tk₄, m₄, nx₄, i + 1, ys ++ [y], rfl, ⟨oI, hs₅.extBut _ _ (Ne.symm hDI) (N₄ _ (ho _ (List.mem_cons_self ..))).1, hcI, hdI⟩, F₄.change hs₅ (Ne.symm hCD) hD₀, hs₅.extBut _ _ hLD (N₄ _ (ho (L, oL) (by simp))).1,
          hD₅.trans (congrArg some (LCg.lst_snoc ys y)), fun p hp => ⟨hs₅.extBut _ _ (hc p hp).2.1 (N₄ p (hn p hp)).1, (N₄ p (hn p hp)).2⟩, hc, hJ₄, by rw [List.length_append, List.length_singleton]; omega, hlt', rfl⟩
    · have hin : i = vs.length := by omega
      subst hin
      refine wpAny_pyNext_list_end hh hit hl' (by simp) fun h₁ hx => ?_
      obtain ⟨F₂, N₂, eL₂, eD₂⟩ := next h₁ hx
      exact hRR D C h₁ tk m₂ ys nx hJ hyi hDn F₂ ⟨Lst _ eL₂, F₂.keep, F.above⟩ (fun p hp => by
        rcases List.mem_cons.mp hp with rfl | hp
        · exact ⟨eD₂, Ne.symm hLD, hD₀⟩
        · exact ⟨(N₂ p hp).1, (hnx p hp).2.2, (N₂ p hp).2.2⟩) (Ne.symm hLC) hCD hC₀ (fun p hp => (N₂ p hp).2.1)
  exact codeAny_compStart_list (loop _ rfl) (wpAny_pyIter_listiter (i := 0) ⟨_, gI, rfl, rfl⟩ (loop _ rfl))
def CJA (prog : Program) (w : World) (A : Around) (env : Env) (scope : Scope) (cl : List (Str × Addr)) (target : Expr) (ifs : List Expr) (elt : Expr) (y : Str) (Q : Flow → Shared → Prop) (xv : Value) (s₁ : Shared) : Prop :=
  ∃ (J : Nat → List Value → List (Addr × Obj) → Prop) (h₀ : Heap) (m : Str → Option Value) (news : List (Addr × Obj)) (l : Addr) (vs : List Value),
    xv = .ref l ∧ (∀ i ys nx, J i ys nx → LCg.SrcAt h₀ l vs.toArray nx) ∧ vs.length ≤ sizeLine ∧ Fr h₀ env.locals s₁.heap m ∧ News h₀ env.locals s₁.heap news ∧ (∀ p ∈ news, NotIter p.2) ∧ J 0 [] news ∧
    (∀ (s' : Shared) (I : Addr) i v (Q' : Unit → Shared → Prop) (E' : Value → Shared → Prop), v ∈ vs → s'.heap.IsListIter I l i → Q' () s' → wpAny (model prog w) A (letOwnedTupleGo target (.ref I) v) Q' E' s') ∧
    (∀ i v ys nx C D I oI oL h tk (m₂ : Str → Option Value) (E' : Value → Shared → Prop), vs[i]? = some v → J i ys nx → (ys.length ≤ i ∧ ∃ es n, oL.data = .dict es n) → Fr h₀ (compEnvC scope cl C env).locals h m₂ → News h₀ (compEnvC scope cl C env).locals h (nx ++ [(I, oI), (D, LCg.lst ys), (env.locals, oL)]) → (∀ p ∈ nx, p.1 ≠ D ∧ p.1 ≠ env.locals) →
      wpAny (model prog w) A (assign target (compEnvC scope cl C env) v) (fun _ s₂ =>
        wpAny (model prog w) A (forIn ifs true fun c r => if r = true then do let ok ← isTrue c (compEnvC scope cl C env) (eval c (compEnvC scope cl C env)); pure (ForInStep.yield ok) else pure (ForInStep.yield r)) (fun ok s₃ =>
          if ok = true then wpAny (model prog w) A (eval elt (compEnvC scope cl C env)) (fun y s₄ => JPost h₀ (compEnvC scope cl C env).locals D env.locals [(I, oI), (D, LCg.lst ys), (env.locals, oL)] (J (i + 1) (ys ++ [y])) { s₁ with heap := h, toks := tk } s₄) E' s₃
          else JPost h₀ (compEnvC scope cl C env).locals D env.locals [(I, oI), (D, LCg.lst ys), (env.locals, oL)] (J (i + 1) ys) { s₁ with heap := h, toks := tk } s₃) E' s₂) E' { s₁ with heap := h, toks := tk }) ∧
    (∀ D (ys : List Value) nx h' tk, J vs.length ys nx → ys.length ≤ vs.length → s₁.heap.get? D = none → Fr h₀ env.locals h' (fun z => if z = y then some (.ref D) else m z) → News h₀ env.locals h' ((D, LCg.lst ys) :: nx) → Q .next { s₁ with heap := h', toks := tk })
theorem Assign_J {elt iter target : Expr} {ifs : List Expr} {scope : Scope} {cl : List (Str × Addr)} {pos py spos : Pos} {y : Str} {env : Env} {Q : Flow → Shared → Prop}
    (hh : A.handled = none) (hsw : swapsWith (.ListComp elt [⟨target, iter, ifs, 0⟩] scope pos) (some (.Name y py)) spos.line env = pure true)
    (hclos : closureFor scope env = pure cl) (hcell : ∀ z ∈ scope.names, z.2 ≠ .cell) (hkind : scope.kind = .function)
    (hnames : ∀ z ∈ scope.names, z.2 = .local → scope.names.lookup z.1 = some .local)
    (hy : env.kindOf y = some .local) (hp : (env.scope.kind == .class || (env.scope.kind == .module && env.locals != env.globals)) = false)
    (h : wpAny (model prog w) A (eval iter env) (CJA prog w A env scope cl target ifs elt y Q) E s)
    (hs : ∀ x, foldedSetIterable iter env x = pure x := by intro _; rfl) :
    wpAny (model prog w) A (exec (.Assign [.Name y py] (.ListComp elt [⟨target, iter, ifs, 0⟩] scope pos) spos) env) Q E s := by
  rw [exec_Assign_Name_used _ _ _ _ hsw]
  refine wpAny_bind (wpAny_standAt (wpAny_bind ?_))
  show wpAny _ A (do let _ ← comprehension (.ListComp elt [⟨target, iter, ifs, 0⟩] scope pos) scope env _ (newList []) false (eval iter env) (some (assign (.Name y py) env))) _ _ s
  refine wpAny_bind (wpAny_mono (wpAny_comprehension_free (use := some (assign (.Name y py) env)) (Q := fun _ s' => Q .next s') rfl hs hclos hkind hnames
    (wpAny_mono h (fun xv s₁ h₁ => ?_) fun _ _ e => e)) (fun _ s' hq => wpAny_pure (wpAny_pure hq)) fun _ _ e => e)
  obtain ⟨J, h₀, m, news, l, vs, rfl, hsrc, hsz, F, N, hnc, hJ0, hgo, turn, fin⟩ := h₁
  refine comp_J_block hh hcell hkind hsrc hsz F N hnc hJ0 hgo turn ?_
  intro D C h' tk m₂ ys nx hJ hyl hDn FC FL NL hCL hCD hC₀ offC
  show wpAny _ A (assign (.Name y py) env (.ref D)) _ _ _
  refine wpAny_assign_Name (wpAny_storeName_local hy FL.ns (fun h₂ hn₂ hs₂ => ?_) hp)
  have hL₀ : h₀.get? env.locals = none := Heap.get?_none_of_le FL.above
  have F₂ : Fr h₀ env.locals h₂ (fun z => if z = y then some (.ref D) else m z) := ⟨hn₂, fun b o e => hs₂.extBut b o (fun q => by rw [q, hL₀] at e; cases e) (FL.keep b o e), FL.above⟩
  refine ⟨m₂, FC.ns.sameBut hs₂ hCL, fun h'' hs'' => fin D ys nx h'' _ hJ hyl hDn (F₂.change hs'' hCL hC₀) (fun p hp => ?_)⟩
  have z : h₂.get? p.1 = some p.2 := hs₂.extBut _ _ (NL p hp).2.1 (NL p hp).1
  refine ⟨hs''.extBut _ _ ?_ z, (NL p hp).2⟩
  rcases List.mem_cons.mp hp with rfl | hp
  · exact Ne.symm hCD
  · exact offC p hp
theorem cja_intro {env : Env} {scope : Scope} {cl : List (Str × Addr)} {target : Expr} {ifs : List Expr} {elt : Expr} {y : Str} {Q : Flow → Shared → Prop} {s₁ : Shared} {h₀ : Heap} {m : Str → Option Value} {l : Addr} {news : List (Addr × Obj)}
    (vs : List Value) (J : Nat → List Value → List (Addr × Obj) → Prop)
    (F : Fr h₀ env.locals s₁.heap m) (N : News h₀ env.locals s₁.heap news) (hsrc : ∀ i ys nx, J i ys nx → LCg.SrcAt h₀ l vs.toArray nx) (hsz : vs.length ≤ sizeLine) (hnc : ∀ p ∈ news, NotIter p.2) (hJ : J 0 [] news)
    (hgo : ∀ (s' : Shared) (I : Addr) i v (Q' : Unit → Shared → Prop) (E' : Value → Shared → Prop), v ∈ vs → s'.heap.IsListIter I l i → Q' () s' → wpAny (model prog w) A (letOwnedTupleGo target (.ref I) v) Q' E' s')
    (turn : ∀ i v ys nx C D I oI oL h tk (m₂ : Str → Option Value) (E' : Value → Shared → Prop), vs[i]? = some v → J i ys nx → (ys.length ≤ i ∧ ∃ es n, oL.data = .dict es n) → Fr h₀ (compEnvC scope cl C env).locals h m₂ → News h₀ (compEnvC scope cl C env).locals h (nx ++ [(I, oI), (D, LCg.lst ys), (env.locals, oL)]) → (∀ p ∈ nx, p.1 ≠ D ∧ p.1 ≠ env.locals) →
      wpAny (model prog w) A (assign target (compEnvC scope cl C env) v) (fun _ s₂ =>
        wpAny (model prog w) A (forIn ifs true fun c r => if r = true then do let ok ← isTrue c (compEnvC scope cl C env) (eval c (compEnvC scope cl C env)); pure (ForInStep.yield ok) else pure (ForInStep.yield r)) (fun ok s₃ =>
          if ok = true then wpAny (model prog w) A (eval elt (compEnvC scope cl C env)) (fun y s₄ => JPost h₀ (compEnvC scope cl C env).locals D env.locals [(I, oI), (D, LCg.lst ys), (env.locals, oL)] (J (i + 1) (ys ++ [y])) { s₁ with heap := h, toks := tk } s₄) E' s₃
          else JPost h₀ (compEnvC scope cl C env).locals D env.locals [(I, oI), (D, LCg.lst ys), (env.locals, oL)] (J (i + 1) ys) { s₁ with heap := h, toks := tk } s₃) E' s₂) E' { s₁ with heap := h, toks := tk })
    (fin : ∀ D (ys : List Value) nx h' tk, J vs.length ys nx → ys.length ≤ vs.length → s₁.heap.get? D = none → Fr h₀ env.locals h' (fun z => if z = y then some (.ref D) else m z) → News h₀ env.locals h' ((D, LCg.lst ys) :: nx) → Q .next { s₁ with heap := h', toks := tk }) :
    CJA prog w A env scope cl target ifs elt y Q (.ref l) s₁ := ⟨J, h₀, m, news, l, vs, rfl, hsrc, hsz, F, N, hnc, hJ, hgo, turn, fin⟩
end
theorem st_comp {M : Model} {A : Around} {E : Value → Shared → Prop} {s : Shared} {h₀ : Heap} {scope : Scope} {cl : List (Str × Addr)} {C : Addr} {env : Env} {m : Str → Option Value} {news : List (Addr × Obj)} {x : Str} {v : Value} {Q : Unit → Shared → Prop}
    (F : Fr h₀ (compEnvC scope cl C env).locals s.heap m) (N : News h₀ (compEnvC scope cl C env).locals s.heap news)
    (h : ∀ h', Fr h₀ (compEnvC scope cl C env).locals h' (fun y => if y = x then some v else m y) → News h₀ (compEnvC scope cl C env).locals h' news → Q () { s with heap := h', toks := s.toks + 1 })
    (hx : scope.names.lookup x = some .local) (hk : scope.kind = .function) : wpAny M A (storeName (compEnvC scope cl C env) x v) Q E s :=
  wpAny_storeName_local (lookup_relabel_local hx) F.ns (fun h' hn hs => h h' (F.set hn hs) (fun p hp => ⟨hs.extBut _ _ (N p hp).2.1 (N p hp).1, (N p hp).2⟩)) (by simp [compEnvC, relabel, hk])
local macro_rules | `(tactic| walk_at "storeName") => `(tactic| (k_here; (with_reducible show wpAny _ _ (storeName (compEnvC _ _ _ _) _ _) _ _ _); (refine' st_comp ?F ?N ?_ ?a ?b; (case F => k_asm); (case N => k_asm); (case a => rfl); (case b => rfl); k_whole); intro h' F' N'; (try k_sweep)))
-- Pb
theorem ite_y {c : Prop} [Decidable c] {X Y : Prop} (hc : c) (h : X) : if c then X else Y := by
  rw [if_pos hc]
  exact h
theorem ite_n {c : Prop} [Decidable c] {X Y : Prop} (hc : ¬ c) (h : Y) : if c then X else Y := by
  rw [if_neg hc]
  exact h
local macro_rules | `(tactic| k_room) => `(tactic| walk_at "hroom")
local macro_rules | `(tactic| walk_at "ite") => `(tactic| first | refine ite_y (by decide +kernel) ?_ | refine ite_n (by decide +kernel) ?_)
/-- a heap without the objects ns -/
abbrev hid (h : Heap) (ns : List (Addr × Obj)) : Heap := hideAll h (ns.map (·.1))
theorem go_tup {prog : Program} {w : World} {A : Around} {E : Value → Shared → Prop} {s : Shared} {elts : List Expr} {x1 : Nat} {pos : Pos} {I l : Addr} {i : Nat} {v : Value} {Q' : Unit → Shared → Prop} (hit : s.heap.IsListIter I l i) (hv : ∃ a, v = .ref a) (hQ : Q' () s) :
    wpAny (model prog w) A (letOwnedTupleGo (.Tuple elts x1 pos) (.ref I) v) Q' E s := by
  obtain ⟨a, rfl⟩ := hv
  exact go_list hit hQ
theorem refs_go {prog : Program} {w : World} {A : Around} {elts : List Expr} {x1 : Nat} {pos : Pos} {l : Addr} {vs : List Value} (hr : ∀ v ∈ vs, ∃ a, v = .ref a) :
    ∀ (s' : Shared) (I : Addr) i v (Q' : Unit → Shared → Prop) (E' : Value → Shared → Prop), v ∈ vs → s'.heap.IsListIter I l i → Q' () s' → wpAny (model prog w) A (letOwnedTupleGo (.Tuple elts x1 pos) (.ref I) v) Q' E' s' := fun _ _ _ v _ _ hv hit hQ => go_tup hit (hr v hv) hQ
-- Lb
def notCell (o : Obj) : Bool := match o.data with | .cell _ => false | _ => true
theorem ne_cell {h₀ h : Heap} {L a b : Addr} {oa ob : Obj} {v : Option Value} {news : List (Addr × Obj)} (N : News h₀ L h news) (ha : (a, oa) ∈ news) (hb : (b, ob) ∈ news) (hc : ob.data = .cell v) (hn : notCell oa = true) : a ≠ b := by
  rintro rfl
  have e := (N _ ha).1
  rw [(N _ hb).1] at e
  have e' : ob = oa := Option.some.inj e
  subst e'
  unfold notCell at hn
  rw [hc] at hn
  cases hn
local macro_rules | `(tactic| k_ne) => `(tactic| (refine' ne_cell ?N ?a ?b ?c ?d; (case N => assumption); (case a => k_mem); (case b => k_mem); (case c => assumption); (case d => exact rfl)))
local macro_rules | `(tactic| k_ne) => `(tactic| (refine neN ?_; (try dsimp only); omega))
local macro_rules | `(tactic| k_ne) => `(tactic| walk_at "ne_pick")
local macro_rules | `(tactic| k_ne) => `(tactic| first | (refine' ne_cell ?N ?a ?b ?c ?d; (case N => assumption); (case a => k_mem); (case b => k_mem); (case c => assumption); (case d => exact rfl)) | fail "no")
theorem tail_ne_cell {h₀ h : Heap} {L b : Addr} {ob : Obj} {v : Option Value} {news tail : List (Addr × Obj)} (N : News h₀ L h news) (hs : ∀ p ∈ tail, p ∈ news) (hb : (b, ob) ∈ news) (hc : ob.data = .cell v) (ht : ∀ p ∈ tail, notCell p.2 = true) : ∀ p ∈ tail, p.1 ≠ b :=
  fun p hp => ne_cell N (hs p hp) hb hc (ht p hp)
theorem in_tail_step {tail news : List (Addr × Obj)} {p : Addr × Obj} (h : ∀ q ∈ tail, q ∈ news) : ∀ q ∈ tail, q ∈ p :: news := fun q hq => List.mem_cons_of_mem _ (h q hq)
local macro_rules | `(tactic| walk_at "in_tail") => `(tactic| first | exact fun _ h => h | exact fun _ h => List.mem_cons_of_mem _ h | exact fun _ h => List.mem_cons_of_mem _ (List.mem_cons_of_mem _ h) | (refine in_tail_step ?_; walk_at "in_tail"))
local macro_rules | `(tactic| k_all) => `(tactic| (refine' tail_ne_cell ?N ?s ?b ?c ?t; (case N => assumption); (case s => walk_at "in_tail"); (case b => k_mem); (case c => assumption); (case t => assumption)))
/-- the law's ledger behind its first two statements -/
abbrev base7 (tx txd : Addr) (q1 : HK) (v1 : Value) (n1 : Nat) (sh shd : Addr) (q2 : HK) (v2 : Value) (n2 : Nat) (c3 c2 c1 : Addr) (oc ob oa : Obj) : List (Addr × Obj) :=
  [(txd, dictOf (txtEs q1 v1) n1), (tx, instObj 111 txd), (shd, dictOf (numEs q2 v2) n2), (sh, instObj 111 shd), (c3, oc), (c2, ob), (c1, oa)]
abbrev led (tx txd : Addr) (q1 : HK) (v1 : Value) (n1 : Nat) (sh shd : Addr) (q2 : HK) (v2 : Value) (n2 : Nat) (c3 c2 c1 : Addr) (oc ob oa : Obj) (tail : List (Addr × Obj)) : List (Addr × Obj) :=
  base7 tx txd q1 v1 n1 sh shd q2 v2 n2 c3 c2 c1 oc ob oa ++ tail
theorem base7_ni {tx txd : Addr} {q1 : HK} {v1 : Value} {n1 : Nat} {sh shd : Addr} {q2 : HK} {v2 : Value} {n2 : Nat} {c3 c2 c1 : Addr} {oc ob oa : Obj} {vc vb va : Option Value} {t : List (Addr × Obj)}
    (hc : oc.data = .cell vc) (hb : ob.data = .cell vb) (ha : oa.data = .cell va) (ht : ∀ p ∈ t, NotIter p.2) : ∀ p ∈ led tx txd q1 v1 n1 sh shd q2 v2 n2 c3 c2 c1 oc ob oa t, NotIter p.2 := by
  intro p hp
  rcases List.mem_append.mp hp with hp | hp
  · simp only [List.mem_cons, List.not_mem_nil, or_false] at hp
    rcases hp with rfl | rfl | rfl | rfl | rfl | rfl | rfl
    · exact .inl fun h => absurd (Value.type.inj h) (by decide)
    · exact .inl fun h => nomatch h
    · exact .inl fun h => absurd (Value.type.inj h) (by decide)
    · exact .inl fun h => nomatch h
    · exact .inr ⟨_, hc⟩
    · exact .inr ⟨_, hb⟩
    · exact .inr ⟨_, ha⟩
  · exact ht p hp
theorem jp_add {s : Shared} {h₀ h' : Heap} {C D L K : Addr} {oK : Obj} {own B t news' : List (Addr × Obj)} {m' : Str → Option Value} {J : List (Addr × Obj) → Prop} {tk : Nat}
    (F : Fr h₀ C h' m') (N : News h₀ C h' news') (hn : ∀ p ∈ own, p ∈ news') (hB : ∀ p ∈ B ++ t, p ∈ news') (hK : (K, oK) ∈ news') (hoff : ∀ p ∈ B ++ t, p.1 ≠ D ∧ p.1 ≠ L) (hni : ∀ p ∈ B ++ t, NotIter p.2)
    (hKi : NotIter oK) (hKD : K ≠ D) (hKL : K ≠ L) (hj : J (B ++ (K, oK) :: t)) : JPost h₀ C D L own J s { s with heap := h', toks := tk } := by
  have key : ∀ p ∈ B ++ (K, oK) :: t, p = (K, oK) ∨ p ∈ B ++ t := fun p hp => by
    rcases List.mem_append.mp hp with h | h
    · exact .inr (List.mem_append_left _ h)
    · rcases List.mem_cons.mp h with h | h
      · exact .inl h
      · exact .inr (List.mem_append_right _ h)
  refine jpost F N hn (fun p hp => ?_) (fun p hp => ?_) hj
  · rcases key p hp with rfl | h
    · exact hK
    · exact hB p h
  · rcases key p hp with rfl | h
    · exact ⟨hKi, hKD, hKL⟩
    · exact ⟨hni p h, hoff p h⟩
theorem ne_obj' {h₀ h : Heap} {L a b : Addr} {oa ob : Obj} {news : List (Addr × Obj)} (N : News h₀ L h news) (ha : (a, oa) ∈ news) (hb : (b, ob) ∈ news) (hn : oa ≠ ob) : a ≠ b := by
  rintro rfl
  have e := (N _ ha).1
  rw [(N _ hb).1] at e
  exact hn (Option.some.inj e).symm
theorem ne_dictL {h₀ h : Heap} {L a b : Addr} {oa ob : Obj} {news : List (Addr × Obj)} (N : News h₀ L h news) (ha : (a, oa) ∈ news) (hb : (b, ob) ∈ news) (hd : ∃ es n, ob.data = .dict es n) (hn : ∀ es n, oa.data ≠ .dict es n) : a ≠ b := by
  refine ne_obj' N ha hb ?_
  rintro rfl
  obtain ⟨es, n, e⟩ := hd
  exact hn es n e
theorem nrm1 {α : Type} {M : Model} {A : Around} {t : Sem α} {Q : α → Shared → Prop} {E : Value → Shared → Prop} {s : Shared} {L : Addr} {m0 : Str → Option Value} {h : Heap} {tk : Nat} {E0 : Int} {t0 : Tok} {news : List (Addr × Obj)}
    {tx txd : Addr} {q1 : HK} {v1 : Value} {n1 : Nat} {sh shd : Addr} {q2 : HK} {v2 : Value} {n2 : Nat} {c3 c2 c1 : Addr} {oc ob oa : Obj} {vc : Option Value}
    (F : Fr s.heap L h (fun y => if y = Str.ofString "some" then some (.int E0 t0) else m0 y)) (N : News s.heap L h news) (hs : ∀ p ∈ led tx txd q1 v1 n1 sh shd q2 v2 n2 c3 c2 c1 oc ob oa [], p ∈ news) (h0 : 0 ≤ E0)
    (ha : oa.data = .cell (some (.ref sh))) (hb : ob.data = .cell (some (.ref tx))) (hc : oc.data = .cell vc)
    (k : ∀ (sm : Int) (tsm : Tok) (h : Heap) (tk : Nat) (tx txd : Addr) (q1 : HK) (v1 : Value) (n1 : Nat) (sh shd : Addr) (q2 : HK) (v2 : Value) (n2 : Nat) (oc ob oa : Obj), 0 ≤ sm → Fr s.heap L h (fun y => if y = Str.ofString "some" then some (.int sm tsm) else m0 y) →
      News s.heap L h (led tx txd q1 v1 n1 sh shd q2 v2 n2 c3 c2 c1 oc ob oa []) → oa.data = .cell (some (.ref sh)) → ob.data = .cell (some (.ref tx)) → oc.data = .cell vc → wpAny M A t Q E { s with heap := h, toks := tk }) :
    wpAny M A t Q E { s with heap := h, toks := tk } :=
  k _ _ _ _ _ _ _ _ _ _ _ _ _ _ _ _ _ h0 F (fun p hp => N p (hs p hp)) ha hb hc
def tupO (xs : Array Value) (n : Nat) : Obj := { cls := Value.type "tuple", data := Data.seq xs n }
/-- wanted, in the ledger -/
def WantL (tail : List (Addr × Obj)) (W : Addr) (ks : List KeyD) : Prop := (∃ n, (W, listOf (ks.map fun k => Value.ref k.k).toArray n) ∈ tail) ∧ ∀ k ∈ ks, ∃ tp n, (k.k, tupO #[.bool k.asc, .int (if k.num then 1 else 0) tp] n) ∈ tail
def WantPost (s : Shared) (L : Addr) (m : Str → Option Value) (base : List (Addr × Obj)) (v : Value) (s' : Shared) : Prop :=
  ∃ W ks tail h tk, v = .ref W ∧ s' = { s with heap := h, toks := tk } ∧ (ks.length = 1 ∨ ks.length = 2) ∧ Fr s.heap L h m ∧ News s.heap L h (base ++ tail) ∧ WantL tail W ks ∧ (∀ p ∈ tail, notCell p.2 = true) ∧ (∀ p ∈ tail, NI2 p.2)
theorem cut_want {M : Model} {A : Around} {t : Sem Value} {Q : Value → Shared → Prop} {E : Value → Shared → Prop} {s s0 : Shared} {L : Addr} {m : Str → Option Value} {base : List (Addr × Obj)} (_F : Fr s.heap L s0.heap m) (_N : News s.heap L s0.heap base)
    (h1 : wpAny M A t (WantPost s L m base) E s0)
    (h2 : ∀ W ks tail h tk, (ks.length = 1 ∨ ks.length = 2) → Fr s.heap L h m → News s.heap L h (base ++ tail) → WantL tail W ks → (∀ p ∈ tail, notCell p.2 = true) → (∀ p ∈ tail, NI2 p.2) → Q (.ref W) { s with heap := h, toks := tk }) : wpAny M A t Q E s0 :=
  wpAny_mono h1 (fun v s' ⟨W, ks, tail, h, tk, e1, e2, hk, F, N, hw, hc, hi⟩ => by subst e1 e2; exact h2 W ks tail h tk hk F N hw hc hi) fun _ _ e => e
theorem fmod2 (a : Int) : a.fmod 2 = 0 ∨ a.fmod 2 = 1 := by
  rw [Int.fmod_eq_emod_of_nonneg _ (by decide)]
  omega
theorem pl_if {pl : Int} (hp : pl = 0 ∨ pl = 1) : pl = if decide (pl = 1) = true then 1 else 0 := by
  rcases hp with rfl | rfl <;> rfl
theorem want_one {s : Shared} {L W k1 : Addr} {m : Str → Option Value} {base news : List (Addr × Obj)} {h : Heap} {tk n n' : Nat} {b : Bool} {pl : Int} {t : Tok}
    (F : Fr s.heap L h m) (N : News s.heap L h news) (hb : ∀ p ∈ base, p ∈ news) (hW : (W, listOf #[.ref k1] n) ∈ news) (hk : (k1, tupO #[.bool b, .int pl t] n') ∈ news) (hp : pl = 0 ∨ pl = 1) :
    WantPost s L m base (.ref W) { s with heap := h, toks := tk } := by
  refine ⟨W, [⟨k1, b, decide (pl = 1)⟩], [(W, listOf #[.ref k1] n), (k1, tupO #[.bool b, .int pl t] n')], h, tk, rfl, rfl, .inl rfl, F, fun p hp => ?_, ⟨⟨n, List.mem_cons_self ..⟩, ?_⟩, ?_, ?_⟩
  · rcases List.mem_append.mp hp with hp | hp
    · exact N p (hb p hp)
    · simp only [List.mem_cons, List.not_mem_nil, or_false] at hp
      rcases hp with rfl | rfl
      · exact N _ hW
      · exact N _ hk
  · intro k hk'
    rw [List.mem_singleton.mp hk']
    refine ⟨t, n', ?_⟩
    dsimp only
    rw [← pl_if hp]
    simp
  · intro p hp
    simp only [List.mem_cons, List.not_mem_nil, or_false] at hp
    rcases hp with rfl | rfl <;> rfl
  · intro p hp
    simp only [List.mem_cons, List.not_mem_nil, or_false] at hp
    rcases hp with rfl | rfl <;> exact .inl ⟨fun h => absurd (Value.type.inj h) (by decide), fun h => absurd (Value.type.inj h) (by decide)⟩
theorem want_two {s : Shared} {L W k1 k2 : Addr} {m : Str → Option Value} {base news : List (Addr × Obj)} {h : Heap} {tk n n' n'' : Nat} {b b2 : Bool} {pl pl2 : Int} {t t2 : Tok}
    (F : Fr s.heap L h m) (N : News s.heap L h news) (hb : ∀ p ∈ base, p ∈ news) (hW : (W, listOf #[.ref k1, .ref k2] n) ∈ news) (hk : (k1, tupO #[.bool b, .int pl t] n') ∈ news) (hk2 : (k2, tupO #[.bool b2, .int pl2 t2] n'') ∈ news) (hp : pl = 0 ∨ pl = 1) (hp2 : pl2 = 0 ∨ pl2 = 1) :
    WantPost s L m base (.ref W) { s with heap := h, toks := tk } := by
  refine ⟨W, [⟨k1, b, decide (pl = 1)⟩, ⟨k2, b2, decide (pl2 = 1)⟩], [(W, listOf #[.ref k1, .ref k2] n), (k1, tupO #[.bool b, .int pl t] n'), (k2, tupO #[.bool b2, .int pl2 t2] n'')], h, tk, rfl, rfl, .inr rfl, F, fun p hp => ?_, ⟨⟨n, List.mem_cons_self ..⟩, ?_⟩, ?_, ?_⟩
  · rcases List.mem_append.mp hp with hp | hp
    · exact N p (hb p hp)
    · simp only [List.mem_cons, List.not_mem_nil, or_false] at hp
      rcases hp with rfl | rfl | rfl
      · exact N _ hW
      · exact N _ hk
      · exact N _ hk2
  · intro k hk'
    simp only [List.mem_cons, List.not_mem_nil, or_false] at hk'
    rcases hk' with rfl | rfl
    · refine ⟨t, n', ?_⟩
      dsimp only
      rw [← pl_if hp]
      simp
    · refine ⟨t2, n'', ?_⟩
      dsimp only
      rw [← pl_if hp2]
      simp
  · intro p hp
    simp only [List.mem_cons, List.not_mem_nil, or_false] at hp
    rcases hp with rfl | rfl | rfl <;> rfl
  · intro p hp
    simp only [List.mem_cons, List.not_mem_nil, or_false] at hp
    rcases hp with rfl | rfl | rfl <;> exact .inl ⟨fun h => absurd (Value.type.inj h) (by decide), fun h => absurd (Value.type.inj h) (by decide)⟩
def KeyL (t : List (Addr × Obj)) (k : KeyD) (sh tx : Addr) : Prop := ∃ tp n, (k.k, tupO #[.bool k.asc, .int (if k.num then 1 else 0) tp, .ref (if k.num then sh else tx)] n) ∈ t
def KInv (ks : List KeyD) (tail : List (Addr × Obj)) (sh tx : Addr) (i : Nat) (ys : List Value) (t : List (Addr × Obj)) : Prop :=
  ∃ kn : List KeyD, ys = kn.map (fun k => Value.ref k.k) ∧ kn.map (fun k => (k.asc, k.num)) = (ks.take i).map (fun k => (k.asc, k.num)) ∧ (∀ k ∈ kn, KeyL t k sh tx) ∧ (∀ p ∈ tail, p ∈ t) ∧ (∀ p ∈ t, notCell p.2 = true ∧ NI2 p.2)
theorem KInv.zero {ks : List KeyD} {tail : List (Addr × Obj)} {sh tx : Addr} (h1 : ∀ p ∈ tail, notCell p.2 = true) (h2 : ∀ p ∈ tail, NI2 p.2) : KInv ks tail sh tx 0 [] tail :=
  ⟨[], rfl, rfl, fun _ h => (nomatch h), fun _ h => h, fun p hp => ⟨h1 p hp, h2 p hp⟩⟩
theorem KInv.succ {ks : List KeyD} {tail t : List (Addr × Obj)} {sh tx K : Addr} {i n : Nat} {ys : List Value} {k : KeyD} {tp : Tok} (x : KInv ks tail sh tx i ys t) (hk : ks[i]? = some k) :
    KInv ks tail sh tx (i + 1) (ys ++ [.ref K]) ((K, tupO #[.bool k.asc, .int (if k.num then 1 else 0) tp, .ref (if k.num then sh else tx)] n) :: t) := by
  obtain ⟨kn, rfl, h2, h3, h4, h5⟩ := x
  refine ⟨kn ++ [⟨K, k.asc, k.num⟩], by simp, ?_, ?_, fun p hp => List.mem_cons_of_mem _ (h4 p hp), ?_⟩
  · rw [List.map_append, h2, List.take_add_one, hk]; simp
  · intro q hq
    rcases List.mem_append.mp hq with hq | hq
    · obtain ⟨a, b, c⟩ := h3 q hq
      exact ⟨a, b, List.mem_cons_of_mem _ c⟩
    · rw [List.mem_singleton.mp hq]
      exact ⟨tp, n, List.mem_cons_self ..⟩
  · intro p hp
    rcases List.mem_cons.mp hp with rfl | hp
    · exact ⟨rfl, .inl ⟨fun h => absurd (Value.type.inj h) (by decide), fun h => absurd (Value.type.inj h) (by decide)⟩⟩
    · exact h5 p hp
theorem ref_at {ks : List KeyD} {i : Nat} {v : Value} (hv : (ks.map fun k => Value.ref k.k)[i]? = some v) : ∃ k, ks[i]? = some k ∧ v = Value.ref k.k := by
  rw [List.getElem?_map] at hv
  cases e : ks[i]? with
  | none => rw [e] at hv; cases hv
  | some k => rw [e] at hv; exact ⟨k, rfl, (Option.some.inj hv).symm⟩
theorem news_front {h₀ h : Heap} {L : Addr} {p : Addr × Obj} {news : List (Addr × Obj)} (N : News h₀ L h news) (hp : p ∈ news) : News h₀ L h (p :: news) := fun q hq => by
  rcases List.mem_cons.mp hq with rfl | hq
  · exact N _ hp
  · exact N q hq
local macro_rules | `(tactic| walk_at "lmem") => `(tactic| first | exact List.Mem.head _ | exact List.mem_append_left _ (by assumption) | assumption | (refine List.mem_append_right _ ?_; walk_at "lmem") | (refine' List.Mem.tail _ ?_; walk_at "lmem"))
theorem key_post {s : Shared} {h₀ h' : Heap} {C D L I K sh tx : Addr} {oI oL : Obj} {B t tail news' : List (Addr × Obj)} {m' : Str → Option Value} {tk n : Nat} {ks : List KeyD} {k : KeyD} {i : Nat} {ys : List Value} {pl : Int} {r : Addr} {tp : Tok} {b : Bool}
    (F : Fr h₀ C h' m') (N : News h₀ C h' news') (hK : (K, tupO #[.bool b, .int pl tp, .ref r] n) ∈ news') (hn : ∀ p ∈ [(I, oI), (D, LCg.lst ys), (L, oL)], p ∈ news') (hB : ∀ p ∈ B ++ t, p ∈ news') (hoff : ∀ p ∈ B ++ t, p.1 ≠ D ∧ p.1 ≠ L) (hni : ∀ p ∈ B ++ t, NotIter p.2)
    (hoL : ∃ es n, oL.data = .dict es n) (hInv : KInv ks tail sh tx i ys t) (hk : ks[i]? = some k) (hb : b = k.asc) (hpl : pl = if k.num then 1 else 0) (hr : r = if k.num then sh else tx) :
    JPost h₀ C D L [(I, oI), (D, LCg.lst ys), (L, oL)] (fun nx => ∃ t, nx = B ++ t ∧ KInv ks tail sh tx (i + 1) (ys ++ [.ref K]) t) s { s with heap := h', toks := tk } := by
  subst hb hpl hr
  refine jp_add F N hn hB hK hoff hni (.inl fun h => absurd (Value.type.inj h) (by decide)) (ne_obj' N hK (hn (D, LCg.lst ys) (by simp)) fun e => ?_) (ne_dictL N hK (hn (L, oL) (by simp)) hoL fun es n e => nomatch e) ⟨_, rfl, hInv.succ hk⟩
  have := congrArg Obj.cls e
  exact absurd (Value.type.inj this) (by decide)
def KeysL (t : List (Addr × Obj)) (D : Addr) (kn : List KeyD) (sh tx : Addr) : Prop := (∃ n, (D, listOf (kn.map fun k => Value.ref k.k).toArray n) ∈ t) ∧ ∀ k ∈ kn, KeyL t k sh tx
theorem keysAt_led {h₀ h : Heap} {L : Addr} {news t : List (Addr × Obj)} {tx txd : Addr} {q1 : HK} {v1 : Value} {n1 : Nat} {sh shd : Addr} {q2 : HK} {v2 : Value} {n2 : Nat} {D : Addr} {kn : List KeyD}
    (N : News h₀ L h news) (ht : ∀ p ∈ t, p ∈ news) (h1 : (txd, dictOf (txtEs q1 v1) n1) ∈ news) (h2 : (tx, instObj 111 txd) ∈ news) (h3 : (shd, dictOf (numEs q2 v2) n2) ∈ news) (h4 : (sh, instObj 111 shd) ∈ news) (x : KeysL t D kn sh tx) : KeysAt h D kn := by
  obtain ⟨⟨n, hD⟩, hk⟩ := x
  refine ⟨⟨_, (N _ (ht _ hD)).1, rfl, n, rfl⟩, fun k hkm => ?_⟩
  obtain ⟨tp, m, hm⟩ := hk k hkm
  refine ⟨_, tp, ⟨_, (N _ (ht _ hm)).1, rfl, m, rfl⟩, ?_⟩
  cases k.num with
  | true => exact ⟨shd, q2, v2, n2, InstAt.of_news N h4 h3⟩
  | false => exact ⟨txd, q1, v1, n1, InstAt.of_news N h2 h1⟩
theorem wanted_led {h₀ h : Heap} {L : Addr} {news t : List (Addr × Obj)} {W : Addr} {ks : List KeyD} (N : News h₀ L h news) (ht : ∀ p ∈ t, p ∈ news) (x : WantL t W ks) : WantedAt h W ks := by
  obtain ⟨⟨n, hD⟩, hk⟩ := x
  refine ⟨⟨_, (N _ (ht _ hD)).1, rfl, n, rfl⟩, fun k hkm => ?_⟩
  obtain ⟨tp, m, hm⟩ := hk k hkm
  exact ⟨tp, ⟨_, (N _ (ht _ hm)).1, rfl, m, rfl⟩⟩
def lawBody : List Stmt := match Challenge.rw_pc0145_01.prog.main.body.getLast? with
  | some (.FunctionDef _ _ b _ _ _ _ _ _ _) => b
  | _ => []
def lawScope : Scope := match Challenge.rw_pc0145_01.prog.main.body.getLast? with
  | some (.FunctionDef _ _ _ _ _ _ s _ _ _) => s
  | _ => default
abbrev lawEnv (L : Addr) : Env := envOfC (Str.ofString "law") lawScope L 554 (.ref 553)
/-- the law's state behind its keys -/
structure LS4 (s : Shared) (h : Heap) (sc : Addr) (sm : Int) (tsm : Tok) (tx txd : Addr) (q1 : HK) (v1 : Value) (n1 : Nat) (sh shd : Addr) (q2 : HK) (v2 : Value) (n2 : Nat) (oc ob oa : Obj) (W D : Addr) (ks kn : List KeyD) (t : List (Addr × Obj)) : Prop where
  hsm : 0 ≤ sm
  F : Fr s.heap s.heap.objs.size h (fun y => if y = Str.ofString "keys" then some (.ref D) else if y = Str.ofString "some" then some (.int sm tsm) else if y = Str.ofString "script" then some (.ref sc) else none)
  N : News s.heap s.heap.objs.size h (led tx txd q1 v1 n1 sh shd q2 v2 n2 (s.heap.objs.size + 1 + 1 + 1) (s.heap.objs.size + 1 + 1) (s.heap.objs.size + 1) oc ob oa t)
  hc : oc.data = .cell (some (.ref W))
  hb : ob.data = .cell (some (.ref tx))
  ha : oa.data = .cell (some (.ref sh))
  ht : ∀ p ∈ t, notCell p.2 = true ∧ NI2 p.2
  hW : WantL t W ks
  hK : KeysL t D kn sh tx
  hsp : kn.map (fun k => (k.asc, k.num)) = ks.map fun k => (k.asc, k.num)
-- En
section
variable {prog : Program} {w : World} {A : Around} {E : Value → Shared → Prop} {s : Shared} {env : Env} {h₀ : Heap} {body : List Stmt} {Q : Flow → Shared → Prop}
abbrev enumO (it : Addr) (i : Int) (old : Value) : Obj := { cls := .type "enumerate", dict := none, data := .fields #[.none, .bool false, .ref it, rawInt i, .none, old], slots := #[] }
def EPost (h₀ : Heap) (L : Addr) (own : List (Addr × Obj)) (J : (Str → Option Value) → List (Addr × Obj) → Prop) (s : Shared) (Q : Flow → Shared → Prop) (f : Flow) (s₂ : Shared) : Prop :=
  match f with
  | .ret v => Q (.ret v) s₂
  | .brk => Q .next s₂
  | _ => ∃ h' tk m' news' nx, s₂ = { s with heap := h', toks := tk } ∧ Fr h₀ L h' m' ∧ News h₀ L h' news' ∧ (∀ p ∈ own, p ∈ news') ∧ (∀ p ∈ nx, p ∈ news') ∧ (∀ p ∈ nx, NI2 p.2) ∧ J m' nx
theorem epost_next {L : Addr} {own news' nx : List (Addr × Obj)} {m' : Str → Option Value} {J : (Str → Option Value) → List (Addr × Obj) → Prop} {h' : Heap} {tk : Nat} (F : Fr h₀ L h' m') (N : News h₀ L h' news') (hn : ∀ p ∈ own, p ∈ news') (hx : ∀ p ∈ nx, p ∈ news')
    (hc : ∀ p ∈ nx, NI2 p.2) (hj : J m' nx) : EPost h₀ L own J s Q .next { s with heap := h', toks := tk } := ⟨h', tk, m', news', nx, rfl, F, N, hn, hx, hc, hj⟩
theorem for_enum {l : Addr} {items : List Value} {n : Nat} {m₀ : Str → Option Value} {news : List (Addr × Obj)} {elts : List Expr} {x1 : Nat} {pos : Pos} (J : Nat → (Str → Option Value) → List (Addr × Obj) → Prop)
    (hh : A.handled = none) (F : Fr h₀ env.locals s.heap m₀) (N : News h₀ env.locals s.heap news) (hl : (l, listOf items.toArray n) ∈ news) (hj : J 0 m₀ news) (hnc : ∀ p ∈ news, NI2 p.2)
    (hsrc : ∀ i m nx, J i m nx → (l, listOf items.toArray n) ∈ nx)
    (turn : ∀ i v T tki e oe it oit m₁ nx h tk, items[i]? = some v → J i m₁ nx → Fr h₀ env.locals h m₁ → News h₀ env.locals h ((T, ({ cls := .type "tuple", data := .seq #[.int (i : Int) tki, v] } : Obj)) :: (nx ++ [(e, oe), (it, oit)])) → (∀ p ∈ nx, p.1 ≠ e ∧ p.1 ≠ it) →
      wpAny (model prog w) A (assign (.Tuple elts x1 pos) env (.ref T)) (fun _ s₂ => wpAny (model prog w) A (execs body env) (EPost h₀ env.locals [(e, oe), (it, oit)] (J (i + 1)) { s with heap := h, toks := tk } Q) E s₂) E { s with heap := h, toks := tk })
    (done : ∀ m₁ nx h tk, J items.length m₁ nx → Fr h₀ env.locals h m₁ → News h₀ env.locals h nx → Q .next { s with heap := h, toks := tk })
    (hE : PassesOwn (model prog w) A env E := by passes_own) :
    wpAny (model prog w) A (call (.type "enumerate") [.ref l]) (fun xv s₁ => wpAny (model prog w) A (pyIter xv) (fun it s₂ => LoopAtG prog w A env (.Tuple elts x1 pos) body Q E it s₂) E s₁) E s := by
  refine call_enumerate_1 (N _ hl).1 fun h1 he hit hz hk => ?_
  refine wpAny_pyIter_enum he ?_
  have hLlt : env.locals < s.heap.objs.size := F.ns.lt
  have hIL : s.heap.objs.size ≠ env.locals := Nat.ne_of_gt hLlt
  have hEL : s.heap.objs.size + 1 ≠ env.locals := Nat.ne_of_gt (Nat.lt_succ_of_lt hLlt)
  have fresh₀ : ∀ a, s.heap.objs.size ≤ a → h₀.get? a = none := fun a ha => by
    cases e : h₀.get? a with
    | none => rfl
    | some o' => exact absurd (Heap.lt_size (F.keep a o' e)) (Nat.not_lt.mpr ha)
  have hI₀ := fresh₀ _ (Nat.le_refl _)
  have hE₀ := fresh₀ (s.heap.objs.size + 1) (Nat.le_succ _)
  have hei : s.heap.objs.size + 1 ≠ s.heap.objs.size := Nat.succ_ne_self _
  generalize s.heap.objs.size = it at *
  generalize it + 1 = e at *
  have start : ∃ h tk m₁ nx i old, ({ s with heap := h1 } : Shared) = { s with heap := h, toks := tk } ∧ IsEnum h e it ((i : Nat) : Int) old ∧ h.IsListIter it l i ∧ Fr h₀ env.locals h m₁ ∧ News h₀ env.locals h nx ∧ (∀ p ∈ nx, NI2 p.2) ∧ J i m₁ nx ∧ i ≤ items.length ∧ items.length + 1 = items.length + 1 - i :=
    ⟨h1, s.toks, m₀, news, 0, .none, rfl, he, hit, F.keeps hk, fun p hp => ⟨hk _ _ (N p hp).1, (N p hp).2⟩, hnc, hj, Nat.zero_le _, rfl⟩
  refine codeAny_forLoop_any (fun k s' => ∃ h tk m₁ nx i old, s' = { s with heap := h, toks := tk } ∧ IsEnum h e it ((i : Nat) : Int) old ∧ h.IsListIter it l i ∧ Fr h₀ env.locals h m₁ ∧ News h₀ env.locals h nx ∧ (∀ p ∈ nx, NI2 p.2) ∧ J i m₁ nx ∧ i ≤ items.length ∧ k = items.length + 1 - i) ?_ (items.length + 1) start
  rintro k s' ⟨h, tk, m₁, nx, i, old, rfl, he', hit', F₁, N₁, hc₁, hJ, hi, rfl⟩
  have hlh : h.IsList l items.toArray := ⟨_, (N₁ _ (hsrc _ _ _ hJ)).1, rfl, _, rfl⟩
  have offI : ∀ p ∈ nx, p.1 ≠ it := fun p hp q => by
    obtain ⟨oI, hoI, hcI, hdI⟩ := id hit'
    have g := (N₁ p hp).1
    rw [q, hoI] at g
    rcases hc₁ p hp with h | ⟨v, h⟩
    · exact h.1 (by rw [← Option.some.inj g]; exact hcI)
    · rw [← Option.some.inj g, hdI] at h; cases h
  have offE : ∀ p ∈ nx, p.1 ≠ e := fun p hp q => by
    have g := (N₁ p hp).1
    rw [q, he'] at g
    rcases hc₁ p hp with h | ⟨v, h⟩
    · exact h.2 (by rw [← Option.some.inj g])
    · rw [← Option.some.inj g] at h; cases h
  by_cases hlt' : i < items.length
  · refine wpAny_pyNext_enum_item he' hit' hlh (x := items[i]) (by simp [hlt']) hei fun h₂ heo hit₂ hT hz₂ hk₂ => ?_
    have ho : ∀ b, b ≠ e → b ≠ it → ∀ o, h.get? b = some o → h₂.get? b = some o := fun b h1 h2 o e => hk₂ b o h1 h2 e
    have hTn : h.objs.size ≠ e := Nat.ne_of_gt (Heap.lt_size he')
    have hLh : env.locals < h.objs.size := F₁.ns.lt
    have hT₀ : h₀.get? h.objs.size = none := by
      cases e : h₀.get? h.objs.size with
      | none => rfl
      | some o' => exact absurd (Heap.lt_size (F₁.keep _ o' e)) (Nat.lt_irrefl _)
    refine wpAny_passesOwn hE (wpAny_letOwnedTupleGo_enum heo fun h₃ he₃ hs₃ => ?_)
    replace hs₃ : Heap.SameBut e h₂ h₃ := hs₃
    have up : ∀ b o, b ≠ e → b ≠ it → h.get? b = some o → h₃.get? b = some o := fun b o h1 h2 e => hs₃.extBut b o h1 (hk₂ b o h1 h2 e)
    have hit₃ : h₃.IsListIter it l (i + 1) := hit₂.at fun o x => hs₃.extBut _ _ (Ne.symm hei) x
    obtain ⟨oI, hoI, hcI, hdI⟩ := id hit₃
    have F₃ : Fr h₀ env.locals h₃ m₁ := ⟨F₁.ns.at' fun o x => up _ o (Ne.symm hEL) (Ne.symm hIL) x, fun b o x => up b o (fun q => by rw [q, hE₀] at x; cases x) (fun q => by rw [q, hI₀] at x; cases x) (F₁.keep b o x), F₁.above⟩
    have N₃ : News h₀ env.locals h₃ ((h.objs.size, ({ cls := .type "tuple", data := .seq #[.int (i : Int) tk, items[i]] } : Obj)) :: (nx ++ [(e, enumO it ((i : Int) + 1) items[i]), (it, oI)])) := fun p hp => by
      rcases List.mem_cons.mp hp with rfl | hp
      · exact ⟨hs₃.extBut _ _ hTn hT, Nat.ne_of_gt hLh, hT₀⟩
      · rcases List.mem_append.mp hp with hp | hp
        · exact ⟨up _ _ (offE p hp) (offI p hp) (N₁ p hp).1, (N₁ p hp).2⟩
        · simp only [List.mem_cons, List.not_mem_nil, or_false] at hp
          rcases hp with rfl | rfl
          · exact ⟨he₃, hEL, hE₀⟩
          · exact ⟨hoI, hIL, hI₀⟩
    refine wpAny_passesOwn hE ?_
    refine wpAny_mono (turn i items[i] _ _ e _ it oI m₁ nx h₃ _ (by simp [hlt']) hJ F₃ N₃ fun p hp => ⟨offE p hp, offI p hp⟩) (fun _ s₂ h₂ => wpAny_passesOwn hE (wpAny_mono h₂ (fun f s₃ p => ?_) fun _ _ e => e)) fun _ _ e => e
    have fin : (∃ h' tk' m' news' nx', s₃ = ({ s with heap := h', toks := tk' } : Shared) ∧ Fr h₀ env.locals h' m' ∧ News h₀ env.locals h' news' ∧ (∀ p ∈ [(e, enumO it ((i : Int) + 1) items[i]), (it, oI)], p ∈ news') ∧ (∀ p ∈ nx', p ∈ news') ∧ (∀ p ∈ nx', NI2 p.2) ∧ J (i + 1) m' nx') →
        ∃ m, m < items.length + 1 - i ∧ ∃ h tk m₁ nx i old, s₃ = { s with heap := h, toks := tk } ∧ IsEnum h e it ((i : Nat) : Int) old ∧ h.IsListIter it l i ∧ Fr h₀ env.locals h m₁ ∧ News h₀ env.locals h nx ∧ (∀ p ∈ nx, NI2 p.2) ∧ J i m₁ nx ∧ i ≤ items.length ∧ m = items.length + 1 - i := by
      rintro ⟨h', tk', m', news', nx', rfl, F', N', hn, hx, hc, hJ'⟩
      have z : IsEnum h' e it ((i : Int) + 1) items[i] := (N' _ (hn _ (List.mem_cons_self ..))).1
      have q : ((i + 1 : Nat) : Int) = (i : Int) + 1 := by push_cast; rfl
      rw [← q] at z
      exact ⟨items.length + 1 - (i + 1), by omega, h', tk', m', nx', i + 1, _, rfl, z, ⟨oI, (N' _ (hn (it, oI) (by simp))).1, hcI, hdI⟩, F', fun p hp => N' p (hx p hp), hc, hJ', hlt', rfl⟩
    cases f with
    | ret v => exact p
    | brk => exact p
    | next => exact fin p
    | cont => exact fin p
  · have hin : i = items.length := by omega
    subst hin
    refine wpAny_pyNext_enum_end hh he' hit' hlh (by simp) fun h₂ hx => wpAny_execs_nil ?_
    exact done m₁ nx h₂ tk hJ ⟨F₁.ns.at' fun o x => hx _ o (Ne.symm hIL) x, fun b o x => hx b o (fun q => by rw [q, hI₀] at x; cases x) (F₁.keep b o x), F₁.above⟩ fun p hp => ⟨hx _ _ (offI p hp) (N₁ p hp).1, (N₁ p hp).2⟩
end
-- Ld
theorem allLt_mem {d : Nat} : ∀ {l : List (Addr × Obj)}, AllLt d l → ∀ p ∈ l, @LT.lt Nat _ p.1 d
  | [], _, _, h => nomatch h
  | q :: r, x, p, h => by
    rcases List.mem_cons.mp h with rfl | h
    · exact x.1
    · exact allLt_mem x.2 p h
abbrev led6 (SL LL a0 a1 a2 a3 : Addr) (items X0 X1 X2 X3 : List Value) (n0 n1 n2 n3 : Nat) (B t : List (Addr × Obj)) : List (Addr × Obj) :=
  (SL, listOf items.toArray 0) :: (LL, listOf #[.ref a0, .ref a1, .ref a2, .ref a3] 0) :: (a0, listOf X0.toArray n0) :: (a1, listOf X1.toArray n1) :: (a2, listOf X2.toArray n2) :: (a3, listOf X3.toArray n3) :: (B ++ t)
theorem nrm5 {α : Type} {M : Model} {A : Around} {tr : Addr → Sem α} {Q : α → Shared → Prop} {E : Value → Shared → Prop} {s : Shared} {L : Addr} {m0 : Str → Option Value} {h : Heap} {tk : Nat} {news B t : List (Addr × Obj)} {SL LL a0 a1 a2 a3 : Addr} {items : List Value} {zs : List Int}
    (F : Fr s.heap L h (fun y => if y = Str.ofString "lists" then some (.ref LL) else m0 y)) (N : News s.heap L h news) (hs : ∀ p ∈ led6 SL LL a0 a1 a2 a3 items [] [] [] [] 0 0 0 0 B [], p ∈ news) (ht : ∀ p ∈ t, p ∈ news) (hi : IntsAre items zs)
    (ho : @LT.lt Nat _ a0 a1 ∧ @LT.lt Nat _ a1 a2 ∧ @LT.lt Nat _ a2 a3 ∧ @LT.lt Nat _ a3 LL ∧ @LT.lt Nat _ LL SL) (hl : AllLt a0 B ∧ AllLt a0 t)
    (k : ∀ SL LL a0 a1 a2 a3 items h tk, Fr s.heap L h (fun y => if y = Str.ofString "lists" then some (.ref LL) else m0 y) → News s.heap L h (led6 SL LL a0 a1 a2 a3 items [] [] [] [] 0 0 0 0 B t) → IntsAre items zs →
      @LT.lt Nat _ a0 a1 ∧ @LT.lt Nat _ a1 a2 ∧ @LT.lt Nat _ a2 a3 ∧ @LT.lt Nat _ a3 LL ∧ @LT.lt Nat _ LL SL → AllLt a0 B ∧ AllLt a0 t → wpAny M A (tr SL) Q E { s with heap := h, toks := tk }) :
    wpAny M A (tr SL) Q E { s with heap := h, toks := tk } := by
  refine k _ _ _ _ _ _ _ _ _ F (fun p hp => ?_) hi ho hl
  simp only [led6, List.mem_cons, List.mem_append] at hp
  rcases hp with rfl | rfl | rfl | rfl | rfl | rfl | hp | hp
  · exact N _ (hs _ (by simp [led6]))
  · exact N _ (hs _ (by simp [led6]))
  · exact N _ (hs _ (by simp [led6]))
  · exact N _ (hs _ (by simp [led6]))
  · exact N _ (hs _ (by simp [led6]))
  · exact N _ (hs _ (by simp [led6]))
  · exact N _ (hs _ (by simp [led6, hp]))
  · exact N _ (ht _ hp)
/-- worths, in the ledger -/
def WrL (t : List (Addr × Obj)) (v : Value) (r : Row) : Prop := ∃ a t1 t2 t3 n, v = .ref a ∧ (a, tupO #[.bytes #[r.t] t1, .int r.w t2, .int (r.n.toNat : Int) t3] n) ∈ t
inductive WL (t : List (Addr × Obj)) : List Value → List Row → Prop
  | nil : WL t [] []
  | cons {v : Value} {r : Row} {vs : List Value} {rs : List Row} : WrL t v r → WL t vs rs → WL t (v :: vs) (r :: rs)
theorem WrL.mono {t t' : List (Addr × Obj)} {v : Value} {r : Row} (x : WrL t v r) (h : ∀ p ∈ t, p ∈ t') : WrL t' v r := by
  obtain ⟨a, t1, t2, t3, n, e, m⟩ := x
  exact ⟨a, t1, t2, t3, n, e, h _ m⟩
theorem WL.mono {t t' : List (Addr × Obj)} {vs : List Value} {rs : List Row} (x : WL t vs rs) (h : ∀ p ∈ t, p ∈ t') : WL t' vs rs := by
  induction x with
  | nil => exact .nil
  | cons a _ ih => exact .cons (a.mono h) ih
theorem WL.append {t : List (Addr × Obj)} {vs us : List Value} {rs qs : List Row} (x : WL t vs rs) (y : WL t us qs) : WL t (vs ++ us) (rs ++ qs) := by
  induction x with
  | nil => exact y
  | cons a _ ih => exact .cons a ih
theorem WL.at {h₀ h : Heap} {L : Addr} {news t : List (Addr × Obj)} {vs : List Value} {rs : List Row} (x : WL t vs rs) (N : News h₀ L h news) (ht : ∀ p ∈ t, p ∈ news) : WorthsAre h vs rs := by
  induction x with
  | nil => exact .nil
  | cons a _ ih =>
    obtain ⟨b, t1, t2, t3, n, rfl, m⟩ := a
    exact .cons ⟨b, t1, t2, t3, rfl, ⟨_, (N _ (ht _ m)).1, rfl, n, rfl⟩⟩ ih
structure LInv (SL LL a0 a1 a2 a3 : Addr) (items : List Value) (B t : List (Addr × Obj)) (m5 : Str → Option Value) (i : Nat) (m : Str → Option Value) (nx : List (Addr × Obj)) (X0 X1 X2 X3 : List Value) (n0 n1 n2 n3 : Nat) (t' : List (Addr × Obj)) (R0 R1 R2 R3 : List Row) : Prop where
  e : nx = led6 SL LL a0 a1 a2 a3 items X0 X1 X2 X3 n0 n1 n2 n3 B t'
  hm : ∀ z, [Str.ofString "number", Str.ofString "cell", Str.ofString "rest"].contains z = false → m z = m5 z
  w0 : WL t' X0 R0
  w1 : WL t' X1 R1
  w2 : WL t' X2 R2
  w3 : WL t' X3 R3
  len : R0.length + R1.length + R2.length + R3.length = i
  sub : ∀ p ∈ t, p ∈ t'
  ok : ∀ p ∈ t', notCell p.2 = true ∧ NI2 p.2
  d0 : ∀ p ∈ t', p.1 ≠ a0
  d1 : ∀ p ∈ t', p.1 ≠ a1
  d2 : ∀ p ∈ t', p.1 ≠ a2
  d3 : ∀ p ∈ t', p.1 ≠ a3
theorem ints_at {vs : List Value} {ns : List Int} (x : IntsAre vs ns) : ∀ {i : Nat} {v : Value}, vs[i]? = some v → ∃ z t, v = .int z t := by
  induction x with
  | nil => intro i v e; simp at e
  | cons _ _ _ ih =>
    intro i v e
    cases i with
    | zero => cases e; exact ⟨_, _, rfl⟩
    | succ i => exact ih (by simpa using e)
theorem fmod4 (a : Int) : a.fmod 4 = 0 ∨ a.fmod 4 = 1 ∨ a.fmod 4 = 2 ∨ a.fmod 4 = 3 := by
  rw [Int.fmod_eq_emod_of_nonneg _ (by decide)]
  omega
theorem fmod3 (a : Int) : a.fmod 3 = 0 ∨ a.fmod 3 = 1 ∨ a.fmod 3 = 2 := by
  rw [Int.fmod_eq_emod_of_nonneg _ (by decide)]
  omega
section
variable {prog : Program} {w : World} {A : Around} {E : Value → Shared → Prop} {s : Shared}
theorem cut_sub {value slice : PySem.Expr} {h₀ : Heap} {L LL a0 a1 a2 a3 : Addr} {n : Nat} {news : List (Addr × Obj)} {q : Int} {u : Tok} {Q : Value → Shared → Prop}
    (N : News h₀ L s.heap news) (hm : (LL, listOf #[.ref a0, .ref a1, .ref a2, .ref a3] n) ∈ news) (hq : q = 0 ∨ q = 1 ∨ q = 2 ∨ q = 3)
    (h : ∀ aj, (aj = a0 ∨ aj = a1 ∨ aj = a2 ∨ aj = a3) → Q (.ref aj) s)
    (hs : subscripted slice false (.ref LL) (.int q u) = operate [.ref LL, .int q u] (getItem (.ref LL) (.int q u)) := by with_unfolding_all rfl) :
    wpAny (model prog w) A (subscriptTail value slice (.ref LL) (.int q u)) Q E s := by
  have hl : s.heap.IsList LL #[.ref a0, .ref a1, .ref a2, .ref a3] := ⟨_, (N _ hm).1, rfl, _, rfl⟩
  rcases hq with rfl | rfl | rfl | rfl
  · exact tail_any hl.typeIs slot_list_getitem.lookup (wpAny_getItem_list hl (by omega) (by omega) rfl (h _ (.inl rfl))) hs
  · exact tail_any hl.typeIs slot_list_getitem.lookup (wpAny_getItem_list hl (by omega) (by omega) rfl (h _ (.inr (.inl rfl)))) hs
  · exact tail_any hl.typeIs slot_list_getitem.lookup (wpAny_getItem_list hl (by omega) (by omega) rfl (h _ (.inr (.inr (.inl rfl))))) hs
  · exact tail_any hl.typeIs slot_list_getitem.lookup (wpAny_getItem_list hl (by omega) (by omega) rfl (h _ (.inr (.inr (.inr rfl))))) hs
end
theorem row_ex (x y : Int) (i : Nat) (hi : i < 256) : ∃ r : Row, KBy.picked #[65, 66, 97] (some (x.fmod 3)) (some (x.fmod 3 + 1)) = #[r.t] ∧ ([-1, 1, 0, -10] : List Int).getD (y.fmod 4).toNat 0 = r.w ∧ ((i : Nat) : Int) = (r.n.toNat : Int) := by
  have hd : ∃ a b, dec a b (([-1, 1, 0, -10] : List Int).getD (y.fmod 4).toNat 0) := by
    rcases fmod4 y with h | h | h | h <;> rw [h]
    · exact ⟨48, 74, .inl ⟨rfl, rfl, rfl⟩⟩
    · exact ⟨48, 65, .inr (.inl ⟨rfl, rfl, rfl⟩)⟩
    · exact ⟨48, 123, .inr (.inr (.inl ⟨rfl, rfl, rfl⟩))⟩
    · exact ⟨49, 125, .inr (.inr (.inr ⟨rfl, rfl, rfl⟩))⟩
  obtain ⟨a, b, hab⟩ := hd
  have hn : ((i : Nat) : Int) = ((UInt8.ofNat i).toNat : Int) := by simp; omega
  rcases fmod3 x with h | h | h <;> rw [h]
  · exact ⟨⟨65, a, b, UInt8.ofNat i, _, hab⟩, (by decide +kernel : KBy.picked #[65, 66, 97] (some 0) (some (0 + 1)) = #[65]), rfl, hn⟩
  · exact ⟨⟨66, a, b, UInt8.ofNat i, _, hab⟩, (by decide +kernel : KBy.picked #[65, 66, 97] (some 1) (some (1 + 1)) = #[66]), rfl, hn⟩
  · exact ⟨⟨97, a, b, UInt8.ofNat i, _, hab⟩, (by decide +kernel : KBy.picked #[65, 66, 97] (some 2) (some (2 + 1)) = #[97]), rfl, hn⟩
theorem news_drop2 {h₀ h : Heap} {L : Addr} {x1 x2 x3 : Addr × Obj} {rest : List (Addr × Obj)} (N : News h₀ L h (x1 :: x2 :: x3 :: rest)) : News h₀ L h (x1 :: rest) := fun p hp => N p (by
  rcases List.mem_cons.mp hp with rfl | hp
  · exact List.mem_cons_self ..
  · exact List.mem_cons_of_mem _ (List.mem_cons_of_mem _ (List.mem_cons_of_mem _ hp)))
theorem WL.snoc {t : List (Addr × Obj)} {vs : List Value} {rs : List Row} {p : Addr × Obj} {v : Value} {r : Row} (x : WL t vs rs) (hv : WrL (p :: t) v r) : WL (p :: t) (vs ++ [v]) (rs ++ [r]) :=
  (x.mono fun q hq => List.mem_cons_of_mem _ hq).append (.cons hv .nil)
theorem WL.up {t : List (Addr × Obj)} {vs : List Value} {rs : List Row} {p : Addr × Obj} (x : WL t vs rs) : WL (p :: t) vs rs := x.mono fun q hq => List.mem_cons_of_mem _ hq
theorem all_app2 {t : List (Addr × Obj)} {e it a : Addr} {oe oit : Obj} (h : ∀ p ∈ t, p.1 ≠ a) (he : e ≠ a) (hi : it ≠ a) : ∀ p ∈ t ++ [(e, oe), (it, oit)], p.1 ≠ a := fun p hp => by
  rcases List.mem_append.mp hp with hp | hp
  · exact h p hp
  · simp only [List.mem_cons, List.not_mem_nil, or_false] at hp
    rcases hp with rfl | rfl
    · exact he
    · exact hi
theorem ne_clsT {h₀ h : Heap} {L a b : Addr} {oa ob : Obj} {news : List (Addr × Obj)} (N : News h₀ L h news) (ha : (a, oa) ∈ news) (hb : (b, ob) ∈ news) (hn : oa.cls ≠ ob.cls) : a ≠ b := ne_obj' N ha hb fun e => hn (congrArg Obj.cls e)
theorem WL.length {t : List (Addr × Obj)} {vs : List Value} {rs : List Row} (x : WL t vs rs) : vs.length = rs.length := by
  induction x with
  | nil => rfl
  | cons _ _ ih => simp [ih]
theorem append_led {prog : Program} {w : World} {A : Around} {E : Value → Shared → Prop} {s : Shared} {h₀ : Heap} {L a : Addr} {m : Str → Option Value} {news : List (Addr × Obj)} {G : Obj → List (Addr × Obj)} {X : List Value} {k : Nat} {v : Value} {Q : Value → Shared → Prop}
    (F : Fr h₀ L s.heap m) (N : News h₀ L s.heap news) (U : UpdF a (listOf X.toArray k) news G) (hsz : X.length ≤ 1000)
    (h : ∀ h', Fr h₀ L h' m → News h₀ L h' (G (listOf (X ++ [v]).toArray (k + 1))) → Q .none { s with heap := h' }) : wpAny (model prog w) A (call (.builtin "list.append") [.ref a, v]) Q E s := by
  obtain ⟨pre, post, e1, e2, h1, h2⟩ := U.split
  subst e1
  have hm := N (a, listOf X.toArray k) (List.mem_append_right _ (List.mem_cons_self ..))
  refine append_at (hsz := by rw [List.size_toArray]; exact Nat.le_trans hsz (by decide)) hm.1 fun h' hs hD => ?_
  have e : listOf (X ++ [v]).toArray (k + 1) = { cls := .type "list", data := .seq (X.toArray.push v) (k + 1) } := by rw [List.push_toArray]
  refine h h' (F.change hs hm.2.1 hm.2.2) ?_
  rw [e2, e]
  intro p hp
  rcases List.mem_append.mp hp with hp | hp
  · have z := N p (List.mem_append_left _ hp)
    exact ⟨hs.extBut _ _ (h1 p hp) z.1, z.2⟩
  · rcases List.mem_cons.mp hp with rfl | hp
    · exact ⟨hD, hm.2⟩
    · have z := N p (List.mem_append_right _ (List.mem_cons_of_mem _ hp))
      exact ⟨hs.extBut _ _ (h2 p hp) z.1, z.2⟩
theorem wrl_new {t : List (Addr × Obj)} {D : Addr} {r : Row} {b : Array UInt8} {u z : Int} {t1 t2 t3 : Tok} {n : Nat} (hb : b = #[r.t]) (hu : u = r.w) (hz : z = (r.n.toNat : Int)) : WrL ((D, tupO #[.bytes b t1, .int u t2, .int z t3] n) :: t) (.ref D) r := by
  subst hb hu hz
  exact ⟨D, t1, t2, t3, n, rfl, List.mem_cons_self ..⟩
theorem cons_all {t : List (Addr × Obj)} {D a : Addr} {o : Obj} (h : ∀ p ∈ t, p.1 ≠ a) (hd : D ≠ a) : ∀ p ∈ (D, o) :: t, p.1 ≠ a := fun p hp => by
  rcases List.mem_cons.mp hp with rfl | hp
  · exact hd
  · exact h p hp
theorem cons_ok {t : List (Addr × Obj)} {D : Addr} {xs : Array Value} {n : Nat} (h : ∀ p ∈ t, notCell p.2 = true ∧ NI2 p.2) : ∀ p ∈ (D, tupO xs n) :: t, notCell p.2 = true ∧ NI2 p.2 := fun p hp => by
  rcases List.mem_cons.mp hp with rfl | hp
  · exact ⟨rfl, .inl ⟨fun h => absurd (Value.type.inj h) (by decide), fun h => absurd (Value.type.inj h) (by decide)⟩⟩
  · exact h p hp
theorem led6_ni {SL LL a0 a1 a2 a3 : Addr} {items X0 X1 X2 X3 : List Value} {n0 n1 n2 n3 : Nat} {t : List (Addr × Obj)} {tx txd : Addr} {q1 : HK} {v1 : Value} {m1 : Nat} {sh shd : Addr} {q2 : HK} {v2 : Value} {m2 : Nat} {c3 c2 c1 : Addr} {oc ob oa : Obj} {vc vb va : Option Value}
    (hc : oc.data = .cell vc) (hb : ob.data = .cell vb) (ha : oa.data = .cell va) (ht : ∀ p ∈ t, notCell p.2 = true ∧ NI2 p.2) : ∀ p ∈ led6 SL LL a0 a1 a2 a3 items X0 X1 X2 X3 n0 n1 n2 n3 (base7 tx txd q1 v1 m1 sh shd q2 v2 m2 c3 c2 c1 oc ob oa) t, NI2 p.2 := by
  have L : ∀ xs n, NI2 (listOf xs n) := fun xs n => .inl ⟨fun h => absurd (Value.type.inj h) (by decide), fun h => absurd (Value.type.inj h) (by decide)⟩
  have Dd : ∀ xs n, NI2 (dictOf xs n) := fun xs n => .inl ⟨fun h => absurd (Value.type.inj h) (by decide), fun h => absurd (Value.type.inj h) (by decide)⟩
  have I : ∀ c d, NI2 (instObj c d) := fun c d => .inl ⟨(fun h => nomatch h), (fun h => nomatch h)⟩
  intro p hp
  simp only [led6, base7, List.mem_cons, List.mem_append, List.not_mem_nil, or_false] at hp
  rcases hp with rfl | rfl | rfl | rfl | rfl | rfl | (rfl | rfl | rfl | rfl | rfl | rfl | rfl) | hp
  · exact L _ _
  · exact L _ _
  · exact L _ _
  · exact L _ _
  · exact L _ _
  · exact L _ _
  · exact Dd _ _
  · exact I _ _
  · exact Dd _ _
  · exact I _ _
  · exact .inr ⟨_, hc⟩
  · exact .inr ⟨_, hb⟩
  · exact .inr ⟨_, ha⟩
  · exact (ht p hp).2
theorem WantL.mono {t t' : List (Addr × Obj)} {W : Addr} {ks : List KeyD} (x : WantL t W ks) (h : ∀ p ∈ t, p ∈ t') : WantL t' W ks := by
  obtain ⟨⟨n, a⟩, b⟩ := x
  exact ⟨⟨n, h _ a⟩, fun k hk => let ⟨p, q, r⟩ := b k hk; ⟨p, q, h _ r⟩⟩
theorem KeysL.mono {t t' : List (Addr × Obj)} {D sh tx : Addr} {kn : List KeyD} (x : KeysL t D kn sh tx) (h : ∀ p ∈ t, p ∈ t') : KeysL t' D kn sh tx := by
  obtain ⟨⟨n, a⟩, b⟩ := x
  exact ⟨⟨n, h _ a⟩, fun k hk => let ⟨p, q, r⟩ := b k hk; ⟨p, q, h _ r⟩⟩
/-- the law's state behind its loop -/
structure LS6 (s : Shared) (h : Heap) (u : Str → Option Value) (sc : Addr) (sm : Int) (tsm : Tok) (tx txd : Addr) (q1 : HK) (v1 : Value) (n1 : Nat) (sh shd : Addr) (q2 : HK) (v2 : Value) (n2 : Nat) (oc ob oa : Obj) (W D : Addr) (ks kn : List KeyD) (SL LL a0 a1 a2 a3 : Addr) (items X0 X1 X2 X3 : List Value) (k0 k1 k2 k3 : Nat) (R0 R1 R2 R3 : List Row) (t : List (Addr × Obj)) : Prop where
  hsm : 0 ≤ sm
  F : Fr s.heap s.heap.objs.size h (fun y => if [Str.ofString "number", Str.ofString "cell", Str.ofString "rest"].contains y then u y else if y = Str.ofString "lists" then some (.ref LL) else if y = Str.ofString "keys" then some (.ref D) else if y = Str.ofString "some" then some (.int sm tsm) else if y = Str.ofString "script" then some (.ref sc) else none)
  N : News s.heap s.heap.objs.size h (led6 SL LL a0 a1 a2 a3 items X0 X1 X2 X3 k0 k1 k2 k3 (base7 tx txd q1 v1 n1 sh shd q2 v2 n2 (s.heap.objs.size + 1 + 1 + 1) (s.heap.objs.size + 1 + 1) (s.heap.objs.size + 1) oc ob oa) t)
  hc : oc.data = .cell (some (.ref W))
  hb : ob.data = .cell (some (.ref tx))
  ha : oa.data = .cell (some (.ref sh))
  ht : ∀ p ∈ t, notCell p.2 = true ∧ NI2 p.2
  hW : WantL t W ks
  hK : KeysL t D kn sh tx
  hsp : kn.map (fun k => (k.asc, k.num)) = ks.map fun k => (k.asc, k.num)
  w0 : WL t X0 R0
  w1 : WL t X1 R1
  w2 : WL t X2 R2
  w3 : WL t X3 R3
  len : 2 ≤ R0.length + R1.length + R2.length + R3.length ∧ R0.length + R1.length + R2.length + R3.length ≤ 8
-- Le
/-- lists of worths, in the ledger -/
inductive LLs (t : List (Addr × Obj)) : List Value → List (List Row) → Prop
  | nil : LLs t [] []
  | cons {d : Addr} {Y : List Value} {n : Nat} {R : List Row} {vs : List Value} {rss : List (List Row)} : (d, listOf Y.toArray n) ∈ t → WL t Y R → LLs t vs rss → LLs t (.ref d :: vs) (R :: rss)
theorem LLs.mono {t t' : List (Addr × Obj)} {vs : List Value} {rss : List (List Row)} (x : LLs t vs rss) (h : ∀ p ∈ t, p ∈ t') : LLs t' vs rss := by
  induction x with
  | nil => exact .nil
  | cons a b _ ih => exact .cons (h _ a) (b.mono h) ih
theorem LLs.append {t : List (Addr × Obj)} {vs us : List Value} {rs qs : List (List Row)} (x : LLs t vs rs) (y : LLs t us qs) : LLs t (vs ++ us) (rs ++ qs) := by
  induction x with
  | nil => exact y
  | cons a b _ ih => exact .cons a b ih
theorem LLs.length {t : List (Addr × Obj)} {vs : List Value} {rs : List (List Row)} (x : LLs t vs rs) : vs.length = rs.length := by
  induction x with
  | nil => rfl
  | cons _ _ _ ih => simp [ih]
theorem LLs.get {t : List (Addr × Obj)} {vs : List Value} {rss : List (List Row)} (x : LLs t vs rss) : ∀ {i : Nat} {v : Value}, vs[i]? = some v → ∃ d Y n R, rss[i]? = some R ∧ v = .ref d ∧ (d, listOf Y.toArray n) ∈ t ∧ WL t Y R := by
  induction x with
  | nil => intro i v e; simp at e
  | cons a b _ ih =>
    intro i v e
    cases i with
    | zero => cases e; exact ⟨_, _, _, _, rfl, rfl, a, b⟩
    | succ i => exact ih (by simpa using e)
theorem WL.mem {t : List (Addr × Obj)} {vs : List Value} {rs : List Row} (x : WL t vs rs) : ∀ {v : Value}, v ∈ vs → ∃ r, WrL t v r := by
  induction x with
  | nil => intro v e; cases e
  | cons a _ ih =>
    intro v e
    rcases List.mem_cons.mp e with rfl | e
    · exact ⟨_, a⟩
    · exact ih e
theorem worth_inj3 {h : Heap} {v : Value} {r r' : Row} (x : WorthAt h v r) (y : WorthAt h v r') : r.t = r'.t ∧ r.w = r'.w ∧ (r.n.toNat : Int) = (r'.n.toNat : Int) := by
  obtain ⟨a, t1, t2, t3, rfl, ht⟩ := x
  obtain ⟨a', u1, u2, u3, e, hu⟩ := y
  cases e
  have := isTup_inj ht hu
  simp only [Array.mk.injEq, List.cons.injEq, Value.bytes.injEq, Value.int.injEq, and_true] at this
  exact ⟨this.1.1, this.2.1.1, this.2.2.1⟩
/-- what the heap says of values from the ledger, the ledger says -/
theorem wl_of {h₀ h : Heap} {L : Addr} {news t : List (Addr × Obj)} {X ys : List Value} {R S : List Row} (N : News h₀ L h news) (ht : ∀ p ∈ t, p ∈ news) (hX : WL t X R) (hy : WorthsAre h ys S) (hm : ∀ v ∈ ys, v ∈ X) : WL t ys S := by
  induction hy with
  | nil => exact .nil
  | cons hw _ ih =>
    refine .cons ?_ (ih fun v hv => hm v (List.mem_cons_of_mem _ hv))
    obtain ⟨r', hr'⟩ := hX.mem (hm _ (List.mem_cons_self ..))
    obtain ⟨b, t1, t2, t3, n, rfl, m⟩ := id hr'
    have hw' : WorthAt h (.ref b) r' := ⟨b, t1, t2, t3, rfl, ⟨_, (N _ (ht _ m)).1, rfl, n, rfl⟩⟩
    obtain ⟨e1, e2, e3⟩ := worth_inj3 hw hw'
    refine ⟨b, t1, t2, t3, n, rfl, ?_⟩
    rw [e1, e2, e3]
    exact m
-- Lg
/-- what the law's blocks hold in common behind its loop -/
structure Com (s : Shared) (h : Heap) (m : Str → Option Value) (sm : Int) (tsm : Tok) (tx txd : Addr) (q1 : HK) (v1 : Value) (n1 : Nat) (sh shd : Addr) (q2 : HK) (v2 : Value) (n2 : Nat) (oc ob oa : Obj) (W D : Addr) (ks kn : List KeyD) (t : List (Addr × Obj)) : Prop where
  hsm : 0 ≤ sm
  F : Fr s.heap s.heap.objs.size h m
  N : News s.heap s.heap.objs.size h (led tx txd q1 v1 n1 sh shd q2 v2 n2 (s.heap.objs.size + 1 + 1 + 1) (s.heap.objs.size + 1 + 1) (s.heap.objs.size + 1) oc ob oa t)
  hc : oc.data = .cell (some (.ref W))
  hb : ob.data = .cell (some (.ref tx))
  ha : oa.data = .cell (some (.ref sh))
  ht : ∀ p ∈ t, notCell p.2 = true ∧ NI2 p.2
  hW : WantL t W ks
  hK : KeysL t D kn sh tx
  hsp : kn.map (fun k => (k.asc, k.num)) = ks.map fun k => (k.asc, k.num)
  mkk : m (Str.ofString "keys") = some (.ref D)
  mss : m (Str.ofString "some") = some (.int sm tsm)
section
variable {s : Shared} {h h' : Heap} {m m' : Str → Option Value} {sm : Int} {tsm : Tok} {tx txd : Addr} {q1 : HK} {v1 : Value} {n1 : Nat} {sh shd : Addr} {q2 : HK} {v2 : Value} {n2 : Nat} {oc ob oa : Obj} {W D : Addr} {ks kn : List KeyD} {t t' : List (Addr × Obj)}
end
theorem fr_fix {h₀ h : Heap} {L : Addr} {m : Str → Option Value} {y : Str} {v : Value} (F : Fr h₀ L h m) (e : m y = some v) : Fr h₀ L h (fun z => if z = y then some v else m z) := by
  rw [← fix_fn e]; exact F
theorem led_cons {h₀ h : Heap} {L : Addr} {tx txd : Addr} {q1 : HK} {v1 : Value} {n1 : Nat} {sh shd : Addr} {q2 : HK} {v2 : Value} {n2 : Nat} {c3 c2 c1 : Addr} {oc ob oa : Obj} {t : List (Addr × Obj)} {p : Addr × Obj}
    (N : News h₀ L h (p :: led tx txd q1 v1 n1 sh shd q2 v2 n2 c3 c2 c1 oc ob oa t)) : News h₀ L h (led tx txd q1 v1 n1 sh shd q2 v2 n2 c3 c2 c1 oc ob oa (p :: t)) := fun q hq => by
  refine N q ?_
  rcases List.mem_append.mp hq with h | h
  · exact List.mem_cons_of_mem _ (List.mem_append_left _ h)
  · rcases List.mem_cons.mp h with h | h
    · exact h ▸ List.mem_cons_self ..
    · exact List.mem_cons_of_mem _ (List.mem_append_right _ h)
theorem lst_ok {xs : Array Value} {n : Nat} : notCell (listOf xs n) = true ∧ NI2 (listOf xs n) := ⟨rfl, .inl ⟨fun h => absurd (Value.type.inj h) (by decide), fun h => absurd (Value.type.inj h) (by decide)⟩⟩
theorem cons_okL {t : List (Addr × Obj)} {D : Addr} {xs : Array Value} {n : Nat} (h : ∀ p ∈ t, notCell p.2 = true ∧ NI2 p.2) : ∀ p ∈ (D, listOf xs n) :: t, notCell p.2 = true ∧ NI2 p.2 := fun p hp => by
  rcases List.mem_cons.mp hp with rfl | hp
  · exact lst_ok
  · exact h p hp
/-- an address that the heap did not hold is none of the ledger's -/
theorem none_ne {h₀ h : Heap} {L K : Addr} {news : List (Addr × Obj)} {p : Addr × Obj} (N : News h₀ L h news) (hp : p ∈ news) (hK : h.get? K = none) : K ≠ p.1 := by
  rintro rfl
  rw [(N p hp).1] at hK
  cases hK
/-- behind a turn that makes one list -/
theorem jl_add {s : Shared} {h₀ h h' : Heap} {C D L I K : Addr} {oI oL : Obj} {ys : List Value} {xs : Array Value} {n : Nat} {B t news news' : List (Addr × Obj)} {m' : Str → Option Value} {J : List (Addr × Obj) → Prop} {tk : Nat}
    (F : Fr h₀ C h' m') (N : News h₀ C h' news') (N0 : News h₀ C h news) (hn0 : ∀ p ∈ [(I, oI), (D, LCg.lst ys), (L, oL)], p ∈ news) (hKn : h.get? K = none) (hn : ∀ p ∈ [(I, oI), (D, LCg.lst ys), (L, oL)], p ∈ news') (hB : ∀ p ∈ B ++ t, p ∈ news') (hK : (K, listOf xs n) ∈ news') (hoff : ∀ p ∈ B ++ t, p.1 ≠ D ∧ p.1 ≠ L) (hni : ∀ p ∈ B ++ t, NotIter p.2)
    (hj : J (B ++ (K, listOf xs n) :: t)) : JPost h₀ C D L [(I, oI), (D, LCg.lst ys), (L, oL)] J s { s with heap := h', toks := tk } :=
  jp_add F N hn hB hK hoff hni lst_ok.2.ni (none_ne N0 (hn0 (D, LCg.lst ys) (by simp)) hKn) (none_ne N0 (hn0 (L, oL) (by simp)) hKn) hj
-- Lh
/-- lists of rows, in the ledger -/
inductive BLs (t : List (Addr × Obj)) : List Value → List (List Row) → Prop
  | nil : BLs t [] []
  | cons {d : Addr} {Y : List Value} {n : Nat} {R : List Row} {vs : List Value} {rss : List (List Row)} : (d, listOf Y.toArray n) ∈ t → RowsAre Y R → BLs t vs rss → BLs t (.ref d :: vs) (R :: rss)
theorem BLs.mono {t t' : List (Addr × Obj)} {vs : List Value} {rss : List (List Row)} (x : BLs t vs rss) (h : ∀ p ∈ t, p ∈ t') : BLs t' vs rss := by
  induction x with
  | nil => exact .nil
  | cons a b _ ih => exact .cons (h _ a) b ih
theorem BLs.append {t : List (Addr × Obj)} {vs us : List Value} {rs qs : List (List Row)} (x : BLs t vs rs) (y : BLs t us qs) : BLs t (vs ++ us) (rs ++ qs) := by
  induction x with
  | nil => exact y
  | cons a b _ ih => exact .cons a b ih
theorem BLs.length {t : List (Addr × Obj)} {vs : List Value} {rs : List (List Row)} (x : BLs t vs rs) : vs.length = rs.length := by
  induction x with
  | nil => rfl
  | cons _ _ _ ih => simp [ih]
theorem BLs.get {t : List (Addr × Obj)} {vs : List Value} {rss : List (List Row)} (x : BLs t vs rss) : ∀ {i : Nat} {v : Value}, vs[i]? = some v → ∃ d Y n R, rss[i]? = some R ∧ v = .ref d ∧ (d, listOf Y.toArray n) ∈ t ∧ RowsAre Y R := by
  induction x with
  | nil => intro i v e; simp at e
  | cons a b _ ih =>
    intro i v e
    cases i with
    | zero => cases e; exact ⟨_, _, _, _, rfl, rfl, a, b⟩
    | succ i => exact ih (by simpa using e)
theorem BLs.at {h₀ h : Heap} {L : Addr} {news t : List (Addr × Obj)} {vs : List Value} {rss : List (List Row)} (x : BLs t vs rss) (N : News h₀ L h news) (ht : ∀ p ∈ t, p ∈ news) : LsAre h vs rss := by
  induction x with
  | nil => exact trivial
  | cons a b _ ih => exact ⟨⟨_, _, rfl, ⟨_, (N _ (ht _ a)).1, rfl, _, rfl⟩, b⟩, ih⟩
theorem dec_inj {a b c d : UInt8} {w : Int} (x : dec a b w) (y : dec c d w) : a = c ∧ b = d := by
  rcases x with ⟨rfl, rfl, rfl⟩ | ⟨rfl, rfl, rfl⟩ | ⟨rfl, rfl, rfl⟩ | ⟨rfl, rfl, rfl⟩ <;> rcases y with ⟨rfl, rfl, h⟩ | ⟨rfl, rfl, h⟩ | ⟨rfl, rfl, h⟩ | ⟨rfl, rfl, h⟩ <;> first | exact ⟨rfl, rfl⟩ | exact absurd h (by decide)
theorem dec_four {a b : UInt8} {w : Int} (x : dec a b w) : w = -1 ∨ w = 1 ∨ w = 0 ∨ w = -10 := by
  rcases x with ⟨_, _, h⟩ | ⟨_, _, h⟩ | ⟨_, _, h⟩ | ⟨_, _, h⟩ <;> simp [h]
theorem wrl_at {h₀ h : Heap} {L : Addr} {news t : List (Addr × Obj)} {v : Value} {r : Row} (N : News h₀ L h news) (ht : ∀ p ∈ t, p ∈ news) (x : WrL t v r) : WorthAt h v r := by
  obtain ⟨b, t1, t2, t3, n, rfl, m⟩ := x
  exact ⟨b, t1, t2, t3, rfl, ⟨_, (N _ (ht _ m)).1, rfl, n, rfl⟩⟩
theorem oct_same {h : Heap} {v : Value} {r r' : Row} (x : WorthAt h v r) (y : WorthAt h v r') : r.oct = r'.oct := by
  obtain ⟨e1, e2, e3⟩ := worth_inj3 x y
  have e4 : r.n = r'.n := UInt8.toNat_inj.mp (by omega)
  obtain ⟨e5, e6⟩ := dec_inj (e2 ▸ r.ok) r'.ok
  simp only [Row.oct, e1, e4, e5, e6]
/-- a worth's row -/
def OctOf (t : List (Addr × Obj)) (v y : Value) : Prop := ∀ r, WrL t v r → ∃ u, y = .bytes r.oct u
theorem octs_rows {t : List (Addr × Obj)} {Y ys : List Value} {R : List Row} (x : WL t Y R) (h : Paired (OctOf t) (Y.filter fun _ => true) ys) : RowsAre ys R := by
  rw [List.filter_eq_self.mpr fun _ _ => rfl] at h
  induction x generalizing ys with
  | nil => cases h; exact .nil
  | cons a _ ih =>
    cases h with
    | cons e h' =>
      obtain ⟨u, rfl⟩ := e _ a
      exact .cons (ih h')
theorem oct_of {h₀ h : Heap} {L : Addr} {news t : List (Addr × Obj)} {v y : Value} {r : Row} (N : News h₀ L h news) (ht : ∀ p ∈ t, p ∈ news) (x : WrL t v r) (e : ∃ u, y = .bytes r.oct u) : OctOf t v y := fun r' hr' => by
  obtain ⟨u, rfl⟩ := e
  exact ⟨u, by rw [oct_same (wrl_at N ht x) (wrl_at N ht hr')]⟩
theorem RowsAre.eq {vs : List Value} {rs : List Row} (h : RowsAre vs rs) (i : Nat) (v : Value) (e : vs[i]? = some v) : ∃ r u, rs[i]? = some r ∧ v = .bytes r.oct u := by
  induction h generalizing i with
  | nil => simp at e
  | cons _ ih =>
    cases i with
    | zero => cases e; exact ⟨_, _, rfl, rfl⟩
    | succ i => exact ih i (by simpa using e)
theorem m_if {m : Str → Option Value} {x y : Str} {a v : Option Value} (h : y ≠ x) (e : m y = v) : (if y = x then a else m y) = v := by rw [if_neg h, e]
theorem byteArr_one (b : UInt8) : byteArr [(b.toNat : Int)] = #[b] := by simp [byteArr]
-- Li
theorem eqAt_bytes {A : Around} {s : Shared} (b : Array UInt8) (t u : Tok) : PySem.SeqAt.EqAt A s (.bytes b t) (.bytes b u) true := fun prog w E Q hq => by
  unfold eqBool
  refine wpAny_holding ?_
  refine wpAny_ite_split (fun _ => wpAny_bind (wpAny_rule (wpAny_pure hq))) (fun _ => ?_)
  exact wpAny_bind (eq_bytes (wpAny_truthy_bool (by simpa using hq)))
theorem eqAt_rows {A : Around} {s : Shared} {vs us : List Value} {rs : List Row} (hr : RowsAre vs rs) (hr' : RowsAre us rs) (j : Nat) (h1 : j < vs.toArray.size) (h2 : j < us.toArray.size) : PySem.SeqAt.EqAt A s vs.toArray[j] us.toArray[j] true := by
  have h1' : j < vs.length := by simpa using h1
  have h2' : j < us.length := by simpa using h2
  obtain ⟨r, u, e1, e2⟩ := hr.eq j _ (List.getElem?_eq_getElem h1')
  obtain ⟨r', u', e1', e2'⟩ := hr'.eq j _ (List.getElem?_eq_getElem h2')
  rw [e1] at e1'
  cases e1'
  simp only [List.getElem_toArray]
  rw [e2, e2']
  exact eqAt_bytes _ _ _
theorem rcAt_rows {A : Around} {s : Shared} {a b : Addr} {vs us : List Value} {rs : List Row} (hl : s.heap.IsList a vs.toArray) (hr : RowsAre vs rs) (hl' : s.heap.IsList b us.toArray) (hr' : RowsAre us rs) (hu : A.units < cLine) : PySem.SeqAt.RcAt A s (.ref a) (.ref b) true := by
  have h := PySem.SeqAt.RcAt.lists (e := fun _ => true) hl hl' (by simp [hr.length, hr'.length]) hu (eqAt_rows hr hr')
  rwa [List.all_eq_true.mpr (fun _ _ => rfl)] at h
theorem rcNeAt_rows {A : Around} {s : Shared} {a b : Addr} {vs us : List Value} {rs : List Row} (hl : s.heap.IsList a vs.toArray) (hr : RowsAre vs rs) (hl' : s.heap.IsList b us.toArray) (hr' : RowsAre us rs) (hu : A.units < cLine) : PySem.SeqAt.RcNeAt A s (.ref a) (.ref b) false := by
  have h := PySem.SeqAt.RcNeAt.lists (e := fun _ => true) hl hl' (by simp [hr.length, hr'.length]) hu (eqAt_rows hr hr')
  rwa [List.all_eq_true.mpr (fun _ _ => rfl)] at h
section
variable {prog : Program} {w : World} {A : Around} {E : Value → Shared → Prop} {s : Shared}
theorem eq_rows {a b : Addr} {vs us : List Value} {rs : List Row} {Q : Value → Shared → Prop} (hl : s.heap.IsList a vs.toArray) (hr : RowsAre vs rs) (hl' : s.heap.IsList b us.toArray) (hr' : RowsAre us rs) (hu : A.units < cLine)
    (h : Q (.bool true) s) : wpAny (model prog w) A (compareOp .Eq (.ref a) (.ref b)) Q E s := rcAt_rows hl hr hl' hr' hu prog w E Q h
theorem ne_rows {a b : Addr} {vs us : List Value} {rs : List Row} {Q : Value → Shared → Prop} (hl : s.heap.IsList a vs.toArray) (hr : RowsAre vs rs) (hl' : s.heap.IsList b us.toArray) (hr' : RowsAre us rs) (hu : A.units < cLine)
    (h : Q (.bool false) s) : wpAny (model prog w) A (compareOp .NotEq (.ref a) (.ref b)) Q E s := rcNeAt_rows hl hr hl' hr' hu prog w E Q h
theorem LsAre.eqAt {vs us : List Value} {rss : List (List Row)} (x : LsAre s.heap vs rss) (y : LsAre s.heap us rss) (hu : A.units < cLine) (j : Nat) (h1 : j < vs.toArray.size) (h2 : j < us.toArray.size) : PySem.SeqAt.EqAt A s vs.toArray[j] us.toArray[j] true := by
  have h1' : j < vs.length := by simpa using h1
  have h2' : j < us.length := by simpa using h2
  obtain ⟨r, a, ws, e1, e2, hl, hr⟩ := x.get (List.getElem?_eq_getElem h1')
  obtain ⟨r', b, ws', e1', e2', hl', hr'⟩ := y.get (List.getElem?_eq_getElem h2')
  rw [e1] at e1'
  cases e1'
  simp only [List.getElem_toArray]
  rw [e2, e2']
  by_cases hab : a = b
  · subst hab; exact PySem.SeqAt.EqAt.same _
  · exact PySem.SeqAt.EqAt.of_refs hab (rcAt_rows hl hr hl' hr' hu)
theorem ne_lls {a b : Addr} {vs us : List Value} {rss : List (List Row)} {Q : Value → Shared → Prop} (hl : s.heap.IsList a vs.toArray) (hr : LsAre s.heap vs rss) (hl' : s.heap.IsList b us.toArray) (hr' : LsAre s.heap us rss) (hu : A.units + 1 < cLine)
    (h : Q (.bool false) s) : wpAny (model prog w) A (compareOp .NotEq (.ref a) (.ref b)) Q E s := by
  have h' := PySem.SeqAt.RcNeAt.lists (A := A) (e := fun _ => true) hl hl' (by simp [LsAre.length hr, LsAre.length hr']) (by omega) (LsAre.eqAt hr hr' (A := A.in1) (by show A.units + 1 < cLine; exact hu))
  rw [List.all_eq_true.mpr (fun _ _ => rfl)] at h'
  exact h' prog w E Q h
end
theorem lls4 {t : List (Addr × Obj)} {vs : List Value} {R0 R1 R2 R3 : List Row} (x : LLs t vs [R0, R1, R2, R3]) : ∃ d0 d1 d2 d3 Y0 Y1 Y2 Y3 n0 n1 n2 n3, vs = [.ref d0, .ref d1, .ref d2, .ref d3] ∧ (d0, listOf (List.toArray Y0) n0) ∈ t ∧ WL t Y0 R0 ∧ (d1, listOf (List.toArray Y1) n1) ∈ t ∧ WL t Y1 R1 ∧ (d2, listOf (List.toArray Y2) n2) ∈ t ∧ WL t Y2 R2 ∧ (d3, listOf (List.toArray Y3) n3) ∈ t ∧ WL t Y3 R3 := by
  cases x with
  | cons a b x =>
    cases x with
    | cons c d x =>
      cases x with
      | cons e f x =>
        cases x with
        | cons g i x =>
          cases x
          exact ⟨_, _, _, _, _, _, _, _, _, _, _, _, rfl, a, b, c, d, e, f, g, i⟩
theorem bls4 {t : List (Addr × Obj)} {vs : List Value} {R0 R1 R2 R3 : List Row} (x : BLs t vs [R0, R1, R2, R3]) : ∃ d0 d1 d2 d3 Y0 Y1 Y2 Y3 n0 n1 n2 n3, vs = [.ref d0, .ref d1, .ref d2, .ref d3] ∧ (d0, listOf (List.toArray Y0) n0) ∈ t ∧ RowsAre Y0 R0 ∧ (d1, listOf (List.toArray Y1) n1) ∈ t ∧ RowsAre Y1 R1 ∧ (d2, listOf (List.toArray Y2) n2) ∈ t ∧ RowsAre Y2 R2 ∧ (d3, listOf (List.toArray Y3) n3) ∈ t ∧ RowsAre Y3 R3 := by
  cases x with
  | cons a b x =>
    cases x with
    | cons c d x =>
      cases x with
      | cons e f x =>
        cases x with
        | cons g i x =>
          cases x
          exact ⟨_, _, _, _, _, _, _, _, _, _, _, _, rfl, a, b, c, d, e, f, g, i⟩
theorem mk_list {M : Model} {A : Around} {E : Value → Shared → Prop} {s : Shared} {h₀ : Heap} {L : Addr} {m : Str → Option Value} {news : List (Addr × Obj)} {xs : List Value} {Q : Value → Shared → Prop}
    (F : Fr h₀ L s.heap m) (N : News h₀ L s.heap news) (hd : sizeOk (.seq xs.toArray 0) := by size_fits)
    (k : ∀ h' D, Ext s.heap h' → Fr h₀ L h' m → News h₀ L h' ((D, listOf xs.toArray 0) :: news) → Q (.ref D) { s with heap := h' }) : wpAny M A (newList xs) Q E s := by
  have hx : Ext s.heap (s.heap.push (listOf xs.toArray 0)) := fun b o e => Heap.get?_push_of_some _ e
  refine wpAny_newObj_type (k _ _ hx (fr_ext F hx) ?_) hd
  exact news_pushed F N hx (Heap.get?_push_size _ rfl) rfl
theorem item0 {prog : Program} {w : World} {A : Around} {E : Value → Shared → Prop} {s : Shared} {value slice : Expr} {l : Addr} {vs : List Value} {r : Row} {rs : List Row} {u : Tok} {Q : Value → Shared → Prop} (hl : s.heap.IsList l vs.toArray) (hr : RowsAre vs (r :: rs))
    (h : ∀ t, Q (.bytes r.oct t) s)
    (hs : subscripted slice false (.ref l) (.int 0 u) = operate [.ref l, .int 0 u] (getItem (.ref l) (.int 0 u)) := by with_unfolding_all rfl) :
    wpAny (model prog w) A (subscriptTail value slice (.ref l) (.int 0 u)) Q E s := item_rowsZ hl hr (by decide) (by simp) (by decide) h hs
-- Lf13
section
local macro_rules | `(tactic| k_all) => `(tactic| assumption)
set_option maxRecDepth 100000 in
set_option maxHeartbeats 8000000 in
theorem lawB13 : ∀ {w : World} {mean : ExcName → Option Value} {mg mb : Str → Option Value} {s : Shared} {dp un : Nat} {base : Heap} {outer : List Env} {gd : Option (List Code)} {Q : Flow → Shared → Prop}
   {h : Heap} {m : Str → Option Value} {tk : Nat} {sm : Int} {tsm : Tok} {tx txd : Addr} {q1 : HK} {v1 : Value} {n1 : Nat} {sh shd : Addr} {q2 : HK} {v2 : Value} {n2 : Nat} {oc ob oa : Obj} {W D : Addr} {ks kn : List KeyD} {t : List (Addr × Obj)} {S0 S1 S2 S3 : List Row} {FA : Addr} {nF : Nat} {vF : List Value},
   (Mine.hd.heap_39 w.params).In s.heap → Top Mine.hd.view_39 LL mean mg mb s.heap → dp + 40 < recursionLimit → un + 400 < cLine → Below ⟨none, dp, some outer, gd, un⟩ base outer s.heap →
   Com s h m sm tsm tx txd q1 v1 n1 sh shd q2 v2 n2 oc ob oa W D ks kn t →
   (Srt (spec ks) S0) →
   (Srt (spec ks) S1) →
   (Srt (spec ks) S2) →
   (Srt (spec ks) S3) →
   (2 ≤ S0.length + S1.length + S2.length + S3.length ∧ S0.length + S1.length + S2.length + S3.length ≤ 8) →
   (m (Str.ofString "found") = some (.ref FA)) →
   ((FA, listOf vF.toArray nF) ∈ t) →
   (RowsAre vF (insAll (spec ks) (S0 ++ S1 ++ S2 ++ S3))) →
   (∀ h' tk', Ext s.heap h' → Q (.ret (.bool true)) { s with heap := h', toks := tk' }) →
   wpAny (model Challenge.rw_pc0145_01.row.prog w) (Around.deeper ⟨none, dp, some outer, gd, un⟩ (lawEnv s.heap.objs.size)) (execs (lawBody.drop 13) (lawEnv s.heap.objs.size)) Q (fun _ _ => False) { s with heap := h, toks := tk } := by
  k_fill
  intro w mean mg mb s dp un base outer gd Q h m tk sm tsm tx txd q1 v1 n1 sh shd q2 v2 n2 oc ob oa W D ks kn t S0 S1 S2 S3 FA nF vF X T hd hu B hC o0 o1 o2 o3 hR mF hF rF hQ
  obtain ⟨hsm, F, N, hc, hb, ha, ht, hW, hK, hsp, mkk, mss⟩ := hC
  replace F := fr_fix F mkk
  replace F := fr_fix F (y := Str.ofString "some") (v := .int sm tsm) (by (((try dsimp only); repeat (first | assumption | exact if_pos rfl | (refine (if_neg ?hx97).trans ?_; (case hx97 => decide))))))
  replace F := fr_fix F (y := Str.ofString "found") (v := .ref FA) (by (((try dsimp only); repeat (first | assumption | exact if_pos rfl | (refine (if_neg ?hx98).trans ?_; (case hx98 => decide))))))
  have lR : (insAll (spec ks) (S0 ++ S1 ++ S2 ++ S3)).length ≤ 8 := by simp only [insAll_length, List.length_append]; omega
  have lR2 : 2 ≤ (insAll (spec ks) (S0 ++ S1 ++ S2 ++ S3)).length := by simp only [insAll_length, List.length_append]; omega
  conv in (List.drop 13 lawBody) => whnf
  dsimp only [led, base7, List.cons_append, List.nil_append] at N
  (try k_fold)
  (first | (k_unfold; (try dsimp only)) | (k_end; wrow_close) | walk1 | (dsimp only; walk1) | (leave1; walk_say "STEP leave1"; try dsimp only))
  (repeat' (first | ((fail_if_success (with_reducible show wpAny _ _ (execs _ _) _ _ _)); (fail_if_success (with_reducible show wpAny _ _ (call (Value.ref _) _ _) _ _ _)); (fail_if_success (with_reducible show wpAny _ _ (call (Value.type _) [Value.ref _] _) _ _ _)); (fail_if_success (with_reducible show wpAny _ _ (binaryOp _ (Value.ref _) (Value.ref _)) _ _ _)); (fail_if_success (with_reducible show wpAny _ _ (compareOp _ (Value.ref _) (Value.ref _)) _ _ _)); (fail_if_success (with_reducible show wpAny _ _ (compareOp _ (Value.bytes _ _) (Value.bytes _ _)) _ _ _)); (fail_if_success (with_reducible show wpAny _ _ (eval (Expr.ListComp _ _ _ _) _) _ _ _)); (first | (k_unfold; (try dsimp only)) | (k_end; wrow_close) | walk1 | (dsimp only; walk1) | (leave1; walk_say "STEP leave1"; try dsimp only))) | fail "no step"))
  all_goals (first | (first | exact (0 : Nat) | exact Str.ofString "" | exact Value.none | exact ([] : List (Str × Addr))) | skip)
  obtain ⟨hz0, hz7⟩ : 0 ≤ sm.fmod 7 ∧ sm.fmod 7 < 7 := by
    rw [Int.fmod_eq_emod_of_nonneg _ (by decide)]
    omega
  generalize hz : sm.fmod 7 = z at *
  (first | (k_unfold; (try dsimp only)) | (k_end; wrow_close) | walk1 | (dsimp only; walk1) | (leave1; walk_say "STEP leave1"; try dsimp only))
  (repeat' (first | ((fail_if_success (with_reducible show wpAny _ _ (execs _ _) _ _ _)); (fail_if_success (with_reducible show wpAny _ _ (call (Value.ref _) _ _) _ _ _)); (fail_if_success (with_reducible show wpAny _ _ (call (Value.type _) [Value.ref _] _) _ _ _)); (fail_if_success (with_reducible show wpAny _ _ (binaryOp _ (Value.ref _) (Value.ref _)) _ _ _)); (fail_if_success (with_reducible show wpAny _ _ (compareOp _ (Value.ref _) (Value.ref _)) _ _ _)); (fail_if_success (with_reducible show wpAny _ _ (compareOp _ (Value.bytes _ _) (Value.bytes _ _)) _ _ _)); (fail_if_success (with_reducible show wpAny _ _ (eval (Expr.ListComp _ _ _ _) _) _ _ _)); (first | (k_unfold; (try dsimp only)) | (k_end; wrow_close) | walk1 | (dsimp only; walk1) | (leave1; walk_say "STEP leave1"; try dsimp only))) | fail "no step"))
  all_goals (first | (first | exact (0 : Nat) | exact Str.ofString "" | exact Value.none | exact ([] : List (Str × Addr))) | skip)
  obtain ⟨r0, rest, e0⟩ : ∃ r0 rest, insAll (spec ks) (S0 ++ S1 ++ S2 ++ S3) = r0 :: rest := by
    cases e : insAll (spec ks) (S0 ++ S1 ++ S2 ++ S3) with
    | nil => rw [e] at lR2; simp at lR2
    | cons a b => exact ⟨a, b, rfl⟩
  rw [e0] at rF lR
  clear e0 lR2
  (first | (k_unfold; (try dsimp only)) | (k_end; wrow_close) | walk1 | (dsimp only; walk1) | (leave1; walk_say "STEP leave1"; try dsimp only))
  repeat' (first | (fail_if_success (with_reducible show wpAny _ _ (subscriptTail _ _ (Value.ref _) (Value.int _ _)) _ _ _)); (fail_if_success (with_reducible show wpAny _ _ (call (Value.ref _) _ _) _ _ _)); (fail_if_success (with_reducible show wpAny _ _ (execs _ _) _ _ _)); (fail_if_success (with_reducible show wpAny _ _ (compareOp _ (Value.bytes _ _) (Value.bytes _ _)) _ _ _)); (fail_if_success (with_reducible show wpAny _ _ (compareOp _ (Value.ref _) (Value.ref _)) _ _ _)); (first | (k_unfold; (try dsimp only)) | (k_end; wrow_close) | walk1 | (dsimp only; walk1) | (leave1; walk_say "STEP leave1"; try dsimp only)) | fail "no")
  all_goals (first | (first | exact (0 : Nat) | exact Str.ofString "" | exact Value.none | exact ([] : List (Str × Addr))) | skip)
  (rename News _ _ _ _ => N9)
  (rename Fr _ _ _ _ => F9)
  have Nt : News s.heap s.heap.objs.size _ t := fun p hp => N9 p (by walk_at "lmem")
  refine item0 ⟨_, (Nt _ hF).1, rfl, _, rfl⟩ rF (fun u0 => ?_)
  clear Nt
  repeat' (first | (fail_if_success (with_reducible show wpAny _ _ (subscriptTail _ _ (Value.ref _) (Value.int _ _)) _ _ _)); (fail_if_success (with_reducible show wpAny _ _ (call (Value.ref _) _ _) _ _ _)); (fail_if_success (with_reducible show wpAny _ _ (execs _ _) _ _ _)); (fail_if_success (with_reducible show wpAny _ _ (compareOp _ (Value.bytes _ _) (Value.bytes _ _)) _ _ _)); (fail_if_success (with_reducible show wpAny _ _ (compareOp _ (Value.ref _) (Value.ref _)) _ _ _)); (first | (k_unfold; (try dsimp only)) | (k_end; wrow_close) | walk1 | (dsimp only; walk1) | (leave1; walk_say "STEP leave1"; try dsimp only)) | fail "no")
  all_goals (first | (first | exact (0 : Nat) | exact Str.ofString "" | exact Value.none | exact ([] : List (Str × Addr))) | skip)
  refine' fittedc (r := r0) (k := z) ?kX ?kT ?kD ?kU ?h0 ?_
  case kX => k_in
  case kT => walk_at "htop"
  case kD => walk_at "hroom"
  case kU => walk_at "hroom"
  case h0 => exact ⟨hz0, hz7⟩
  intro h7 tk7 tt hx7
  (try dsimp only at hx7)
  have F10 := fr_ext F9 hx7
  have N10 := news_ext N9 hx7
  clear F9 N9
  have hk : z = 0 ∨ z = 1 ∨ z = 2 ∨ z = 3 ∨ z = 4 ∨ z = 5 ∨ z = 6 := by omega
  obtain ⟨rt, ra, rb, rn, rw', rok⟩ := r0
  have hTs : ((List.take z.toNat ((Row.oct ⟨rt, ra, rb, rn, rw', rok⟩).toList ++ [32, 32, 32, 32, 32, 32, 32])).toArray.size : Int) = z := by
    rcases hk with rfl | rfl | rfl | rfl | rfl | rfl | rfl <;> rfl
  have hTp : (List.take z.toNat ((Row.oct ⟨rt, ra, rb, rn, rw', rok⟩).toList ++ [32, 32, 32, 32, 32, 32, 32])).toArray = KBy.picked #[rt, ra, rb, rn, 32, 32, 32, 32, 32, 32, 32] none (some z) := by
    rcases hk with rfl | rfl | rfl | rfl | rfl | rfl | rfl <;> rfl
  have hw : KBy.whole #[rt, ra, rb, rn, 32, 32, 32, 32, 32, 32, 32] none (some z) = false := by
    rcases hk with rfl | rfl | rfl | rfl | rfl | rfl | rfl <;> rfl
  clear hk
  generalize List.toArray (List.take z.toNat ((Row.oct ⟨rt, ra, rb, rn, rw', rok⟩).toList ++ [32, 32, 32, 32, 32, 32, 32])) = T9 at *
  repeat' (first | (fail_if_success (with_reducible show wpAny _ _ (subscriptTail _ _ (Value.ref _) (Value.int _ _)) _ _ _)); (fail_if_success (with_reducible show wpAny _ _ (subscriptTail _ _ (Value.bytes _ _) _) _ _ _)); (fail_if_success (with_reducible show wpAny _ _ (call (Value.ref _) _ _) _ _ _)); (fail_if_success (with_reducible show wpAny _ _ (compareOp _ (Value.bytes _ _) (Value.bytes _ _)) _ _ _)); (fail_if_success (with_reducible show wpAny _ _ (compareOp _ (Value.ref _) (Value.ref _)) _ _ _)); (first | (k_unfold; (try dsimp only)) | (k_end; wrow_close) | walk1 | (dsimp only; walk1) | (leave1; walk_say "STEP leave1"; try dsimp only)) | fail "no")
  all_goals (first | (first | exact (0 : Nat) | exact Str.ofString "" | exact Value.none | exact ([] : List (Str × Addr))) | skip)
  all_goals (first | (exfalso; omega) | skip)
  (rename News _ _ _ _ => N9)
  (rename Fr _ _ _ _ => F9)
  have Nt : News s.heap s.heap.objs.size _ t := fun p hp => N9 p (by walk_at "lmem")
  refine item0 ⟨_, (Nt _ hF).1, rfl, _, rfl⟩ rF (fun u1 => ?_)
  clear Nt
  dsimp only [Row.oct]
  repeat' (first | (fail_if_success (with_reducible show wpAny _ _ (subscriptTail _ _ (Value.ref _) (Value.int _ _)) _ _ _)); (fail_if_success (with_reducible show wpAny _ _ (subscriptTail _ _ (Value.bytes _ _) _) _ _ _)); (fail_if_success (with_reducible show wpAny _ _ (call (Value.ref _) _ _) _ _ _)); (fail_if_success (with_reducible show wpAny _ _ (compareOp _ (Value.bytes _ _) (Value.bytes _ _)) _ _ _)); (fail_if_success (with_reducible show wpAny _ _ (compareOp _ (Value.ref _) (Value.ref _)) _ _ _)); (first | (k_unfold; (try dsimp only)) | (k_end; wrow_close) | walk1 | (dsimp only; walk1) | (leave1; walk_say "STEP leave1"; try dsimp only)) | fail "no")
  all_goals (first | (first | exact (0 : Nat) | exact Str.ofString "" | exact Value.none | exact ([] : List (Str × Addr))) | skip)
  (with_reducible rename Fr _ _ _ _ => F7)
  (with_reducible rename News _ _ _ _ => N7)
  refine KBy.slice_N (s := ⟨_, _, _, _, _⟩) F7 N7 (by constructor) (by constructor) hw ?sB ?_
  case sB => rw [← hTp]; have : (T9.size : Int) < 7 := by rw [hTs]; exact hz7
             omega
  intro h8 t8 k8 F8 N8
  clear F7 N7
  rw [← hTp]
  repeat' (first | (fail_if_success (with_reducible show wpAny _ _ (subscriptTail _ _ (Value.ref _) (Value.int _ _)) _ _ _)); (fail_if_success (with_reducible show wpAny _ _ (subscriptTail _ _ (Value.bytes _ _) _) _ _ _)); (fail_if_success (with_reducible show wpAny _ _ (call (Value.ref _) _ _) _ _ _)); (fail_if_success (with_reducible show wpAny _ _ (compareOp _ (Value.bytes _ _) (Value.bytes _ _)) _ _ _)); (fail_if_success (with_reducible show wpAny _ _ (compareOp _ (Value.ref _) (Value.ref _)) _ _ _)); (first | (k_unfold; (try dsimp only)) | (k_end; wrow_close) | walk1 | (dsimp only; walk1) | (leave1; walk_say "STEP leave1"; try dsimp only)) | fail "no")
  all_goals (first | (first | exact (0 : Nat) | exact Str.ofString "" | exact Value.none | exact ([] : List (Str × Addr))) | skip)
  refine eq_bytes ?_
  rw [beq_self_eq_true]
  repeat' (first | (fail_if_success (with_reducible show wpAny _ _ (subscriptTail _ _ (Value.ref _) (Value.int _ _)) _ _ _)); (fail_if_success (with_reducible show wpAny _ _ (subscriptTail _ _ (Value.bytes _ _) _) _ _ _)); (fail_if_success (with_reducible show wpAny _ _ (call (Value.ref _) _ _) _ _ _)); (fail_if_success (with_reducible show wpAny _ _ (compareOp _ (Value.bytes _ _) (Value.bytes _ _)) _ _ _)); (fail_if_success (with_reducible show wpAny _ _ (compareOp _ (Value.ref _) (Value.ref _)) _ _ _)); (first | (k_unfold; (try dsimp only)) | (k_end; wrow_close) | walk1 | (dsimp only; walk1) | (leave1; walk_say "STEP leave1"; try dsimp only)) | fail "no")
  all_goals (first | (first | exact (0 : Nat) | exact Str.ofString "" | exact Value.none | exact ([] : List (Str × Addr))) | skip)
  (rename News _ _ _ _ => N9)
  (rename Fr _ _ _ _ => F9)
  have Nt : News s.heap s.heap.objs.size _ t := fun p hp => N9 p (by walk_at "lmem")
  have hsk : spec kn = spec ks := by simp only [spec, hsp]
  have e1 : mergeAll kn [[], ⟨rt, ra, rb, rn, rw', rok⟩ :: rest, []] = ⟨rt, ra, rb, rn, rw', rok⟩ :: rest := by
    show mergeL (spec kn) (mergeL (spec kn) (mergeL (spec kn) [] []) _) [] = _
    rw [nil_merge, merge_nil, merge_nil]
  refine' mergedrows (ks := kn) (rss := [[], ⟨rt, ra, rb, rn, rw', rok⟩ :: rest, []]) ?kX ?kT ?kD ?kU ?h0 ?h1 ?h2 ?h3 ?_
  case kX => k_in
  case kT => walk_at "htop"
  case kD => walk_at "hroom"
  case kU => walk_at "hroom"
  case h0 => exact keysAt_led N9 (fun p hp => by walk_at "lmem") (by walk_at "lmem") (by walk_at "lmem") (by walk_at "lmem") (by walk_at "lmem") hK
  case h1 => exact ⟨_, (N9 _ (List.mem_cons_self ..)).1, rfl, _, rfl⟩
  case h2 => refine ⟨⟨_, [], rfl, ⟨_, (N9 (_, listOf #[] 0) ?m1).1, rfl, _, rfl⟩, .nil⟩, ⟨_, _, rfl, ⟨_, (Nt _ hF).1, rfl, _, rfl⟩, rF⟩, ⟨_, [], rfl, ⟨_, (N9 (_, listOf #[] 0) ?m2).1, rfl, _, rfl⟩, .nil⟩, trivial⟩
             case m1 => exact List.Mem.tail _ (List.Mem.tail _ (List.Mem.head _))
             case m2 => exact List.Mem.tail _ (List.Mem.head _)
  case h3 => simp only [List.map_cons, List.map_nil, List.sum_cons, List.sum_nil, List.length_nil]; omega
  intro h9 tk9 tt9 K9 ys9 n9 hx9 hK9 hKo hW9
  (try dsimp only at hx9 hK9 hKo hW9)
  rw [e1] at hW9
  have F10 := fr_ext F9 hx9
  have N10 := news_add F9 N9 hx9 hK9 hKo
  clear F9 N9 Nt
  repeat' (first | (fail_if_success (with_reducible show wpAny _ _ (subscriptTail _ _ (Value.ref _) (Value.int _ _)) _ _ _)); (fail_if_success (with_reducible show wpAny _ _ (subscriptTail _ _ (Value.bytes _ _) _) _ _ _)); (fail_if_success (with_reducible show wpAny _ _ (call (Value.ref _) _ _) _ _ _)); (fail_if_success (with_reducible show wpAny _ _ (compareOp _ (Value.bytes _ _) (Value.bytes _ _)) _ _ _)); (fail_if_success (with_reducible show wpAny _ _ (compareOp _ (Value.ref _) (Value.ref _)) _ _ _)); (first | (k_unfold; (try dsimp only)) | (k_end; wrow_close) | walk1 | (dsimp only; walk1) | (leave1; walk_say "STEP leave1"; try dsimp only)) | fail "no")
  all_goals (first | (first | exact (0 : Nat) | exact Str.ofString "" | exact Value.none | exact ([] : List (Str × Addr))) | skip)
  (rename News _ _ _ _ => N9)
  (rename Fr _ _ _ _ => F9)
  have Nt : News s.heap s.heap.objs.size _ t := fun p hp => N9 p (by walk_at "lmem")
  refine eq_rows ⟨_, (N9 (K9, listOf ys9 _) (List.mem_cons_self ..)).1, rfl, _, by rw [Array.toArray_toList]⟩ hW9 ⟨_, (Nt _ hF).1, rfl, _, rfl⟩ rF (by walk_at "hroom") ?_
  (((try dsimp only); (repeat (k_unfold; (try dsimp only)))))
  exact hQ _ _ (Fr.keep F9)
end
-- Lf12
section
local macro_rules | `(tactic| k_all) => `(tactic| assumption)
set_option maxRecDepth 100000 in
set_option maxHeartbeats 8000000 in
theorem lawB12 : ∀ {w : World} {mean : ExcName → Option Value} {mg mb : Str → Option Value} {s : Shared} {dp un : Nat} {base : Heap} {outer : List Env} {gd : Option (List Code)} {Q : Flow → Shared → Prop}
   {h : Heap} {m : Str → Option Value} {tk : Nat} {sm : Int} {tsm : Tok} {tx txd : Addr} {q1 : HK} {v1 : Value} {n1 : Nat} {sh shd : Addr} {q2 : HK} {v2 : Value} {n2 : Nat} {oc ob oa : Obj} {W D : Addr} {ks kn : List KeyD} {t : List (Addr × Obj)} {S0 S1 S2 S3 : List Row} {GA : Addr} {nG : Nat} {vG : List Value} {FA : Addr} {nF : Nat} {vF : List Value},
   (Mine.hd.heap_39 w.params).In s.heap → Top Mine.hd.view_39 LL mean mg mb s.heap → dp + 40 < recursionLimit → un + 400 < cLine → Below ⟨none, dp, some outer, gd, un⟩ base outer s.heap →
   Com s h m sm tsm tx txd q1 v1 n1 sh shd q2 v2 n2 oc ob oa W D ks kn t →
   (Srt (spec ks) S0) →
   (Srt (spec ks) S1) →
   (Srt (spec ks) S2) →
   (Srt (spec ks) S3) →
   (2 ≤ S0.length + S1.length + S2.length + S3.length ∧ S0.length + S1.length + S2.length + S3.length ≤ 8) →
   (m (Str.ofString "given") = some (.ref GA)) →
   ((GA, listOf vG.toArray nG) ∈ t) →
   (BLs t vG [S0, S1, S2, S3]) →
   (m (Str.ofString "found") = some (.ref FA)) →
   ((FA, listOf vF.toArray nF) ∈ t) →
   (RowsAre vF (insAll (spec ks) (S0 ++ S1 ++ S2 ++ S3))) →
   (∀ h' tk', Ext s.heap h' → Q (.ret (.bool true)) { s with heap := h', toks := tk' }) →
   wpAny (model Challenge.rw_pc0145_01.row.prog w) (Around.deeper ⟨none, dp, some outer, gd, un⟩ (lawEnv s.heap.objs.size)) (execs (lawBody.drop 12) (lawEnv s.heap.objs.size)) Q (fun _ _ => False) { s with heap := h, toks := tk } := by
  k_fill
  intro w mean mg mb s dp un base outer gd Q h m tk sm tsm tx txd q1 v1 n1 sh shd q2 v2 n2 oc ob oa W D ks kn t S0 S1 S2 S3 GA nG vG FA nF vF X T hd hu B hC o0 o1 o2 o3 hR mG hG bG mF hF rF hQ
  obtain ⟨hsm, F, N, hc, hb, ha, ht, hW, hK, hsp, mkk, mss⟩ := hC
  replace F := fr_fix F mkk
  replace F := fr_fix F (y := Str.ofString "given") (v := .ref GA) (by (((try dsimp only); repeat (first | assumption | exact if_pos rfl | (refine (if_neg ?hx123).trans ?_; (case hx123 => decide))))))
  replace F := fr_fix F (y := Str.ofString "found") (v := .ref FA) (by (((try dsimp only); repeat (first | assumption | exact if_pos rfl | (refine (if_neg ?hx124).trans ?_; (case hx124 => decide))))))
  have lR : (insAll (spec ks) (S0 ++ S1 ++ S2 ++ S3)).length ≤ 8 := by simp only [insAll_length, List.length_append]; omega
  obtain ⟨d0, d1, d2, d3, Y0, Y1, Y2, Y3, k0, k1', k2, k3, rfl, m0, w0, m1, w1, m2, w2, m3, w3⟩ := bls4 bG
  conv in (List.drop 12 lawBody) => whnf
  have N' := news_front N (List.mem_append_right _ hG)
  clear N
  dsimp only [led, base7, List.cons_append, List.nil_append] at N'
  (try k_fold)
  (first | (k_unfold; (try dsimp only)) | (k_end; wrow_close) | walk1 | (dsimp only; walk1) | (leave1; walk_say "STEP leave1"; try dsimp only))
  (repeat' (first | ((fail_if_success (with_reducible show wpAny _ _ (execs _ _) _ _ _)); (fail_if_success (with_reducible show wpAny _ _ (call (Value.ref _) _ _) _ _ _)); (fail_if_success (with_reducible show wpAny _ _ (call (Value.type _) [Value.ref _] _) _ _ _)); (fail_if_success (with_reducible show wpAny _ _ (binaryOp _ (Value.ref _) (Value.ref _)) _ _ _)); (fail_if_success (with_reducible show wpAny _ _ (compareOp _ (Value.ref _) (Value.ref _)) _ _ _)); (fail_if_success (with_reducible show wpAny _ _ (compareOp _ (Value.bytes _ _) (Value.bytes _ _)) _ _ _)); (fail_if_success (with_reducible show wpAny _ _ (eval (Expr.ListComp _ _ _ _) _) _ _ _)); (first | (k_unfold; (try dsimp only)) | (k_end; wrow_close) | walk1 | (dsimp only; walk1) | (leave1; walk_say "STEP leave1"; try dsimp only))) | fail "no step"))
  all_goals (first | (first | exact (0 : Nat) | exact Str.ofString "" | exact Value.none | exact ([] : List (Str × Addr))) | skip)
  have hsk : spec kn = spec ks := by simp only [spec, hsp]
  have eo := ahead_ord (ks.map fun k => (k.asc, k.num))
  have e4 : mergeAll kn [mergeAll kn [S0, S1, S2], S3] = insAll (spec ks) (S0 ++ S1 ++ S2 ++ S3) := by
    have e : mergeAll kn [mergeAll kn [S0, S1, S2], S3] = mergeAll kn [S0, S1, S2, S3] := by
      show mergeL (spec kn) (mergeL (spec kn) [] (mergeAll kn [S0, S1, S2])) S3 = _
      rw [merge_nil]
      rfl
    rw [e]
    unfold mergeAll
    rw [hsk]
    exact merge_ins eo o0 o1 o2 o3
  have l3 : (mergeAll kn [S0, S1, S2]).length = S0.length + S1.length + S2.length := by
    show (mergeL (spec kn) (mergeL (spec kn) (mergeL (spec kn) [] S0) S1) S2).length = _
    simp only [mergeL_length, List.length_nil]; omega
  have e1 : mergeAll kn [insAll (spec ks) (S0 ++ S1 ++ S2 ++ S3)] = insAll (spec ks) (S0 ++ S1 ++ S2 ++ S3) := by
    show mergeL (spec kn) [] _ = _
    rw [merge_nil]
  (rename News _ _ _ _ => N9)
  (rename Fr _ _ _ _ => F9)
  have Nt : News s.heap s.heap.objs.size _ t := fun p hp => N9 p (by walk_at "lmem")
  refine' mergedrows (ks := kn) (vl := [.ref d0, .ref d1, .ref d2]) (rss := [S0, S1, S2]) ?kX ?kT ?kD ?kU ?h0 ?h1 ?h2 ?h3 ?_
  case kX => k_in
  case kT => walk_at "htop"
  case kD => walk_at "hroom"
  case kU => walk_at "hroom"
  case h0 => exact keysAt_led N9 (fun p hp => by walk_at "lmem") (by walk_at "lmem") (by walk_at "lmem") (by walk_at "lmem") (by walk_at "lmem") hK
  case h1 => exact ⟨_, (N9 _ (List.mem_cons_self ..)).1, rfl, _, rfl⟩
  case h2 => exact ⟨⟨_, _, rfl, ⟨_, (Nt _ m0).1, rfl, _, rfl⟩, w0⟩, ⟨⟨_, _, rfl, ⟨_, (Nt _ m1).1, rfl, _, rfl⟩, w1⟩, ⟨⟨_, _, rfl, ⟨_, (Nt _ m2).1, rfl, _, rfl⟩, w2⟩, trivial⟩⟩⟩
  case h3 => simp only [List.map_cons, List.map_nil, List.sum_cons, List.sum_nil]; omega
  intro h7 tk7 tt K1 ys1 n7 hx7 hK7 hKo hW1
  (try dsimp only at hx7 hK7 hKo hW1)
  have F10 := fr_ext F9 hx7
  have N10 := news_add F9 N9 hx7 hK7 hKo
  clear F9 N9 Nt
  (repeat' (first | ((fail_if_success (with_reducible show wpAny _ _ (execs _ _) _ _ _)); (fail_if_success (with_reducible show wpAny _ _ (call (Value.ref _) _ _) _ _ _)); (fail_if_success (with_reducible show wpAny _ _ (call (Value.type _) [Value.ref _] _) _ _ _)); (fail_if_success (with_reducible show wpAny _ _ (binaryOp _ (Value.ref _) (Value.ref _)) _ _ _)); (fail_if_success (with_reducible show wpAny _ _ (compareOp _ (Value.ref _) (Value.ref _)) _ _ _)); (fail_if_success (with_reducible show wpAny _ _ (compareOp _ (Value.bytes _ _) (Value.bytes _ _)) _ _ _)); (fail_if_success (with_reducible show wpAny _ _ (eval (Expr.ListComp _ _ _ _) _) _ _ _)); (first | (k_unfold; (try dsimp only)) | (k_end; wrow_close) | walk1 | (dsimp only; walk1) | (leave1; walk_say "STEP leave1"; try dsimp only))) | fail "no step"))
  all_goals (first | (first | exact (0 : Nat) | exact Str.ofString "" | exact Value.none | exact ([] : List (Str × Addr))) | skip)
  (rename News _ _ _ _ => N9)
  (rename Fr _ _ _ _ => F9)
  have Nt : News s.heap s.heap.objs.size _ t := fun p hp => N9 p (by walk_at "lmem")
  refine' mergedrows (ks := kn) (vl := [.ref K1, .ref d3]) (rss := [mergeAll kn [S0, S1, S2], S3]) ?kX ?kT ?kD ?kU ?h0 ?h1 ?h2 ?h3 ?_
  case kX => k_in
  case kT => walk_at "htop"
  case kD => walk_at "hroom"
  case kU => walk_at "hroom"
  case h0 => exact keysAt_led N9 (fun p hp => by walk_at "lmem") (by walk_at "lmem") (by walk_at "lmem") (by walk_at "lmem") (by walk_at "lmem") hK
  case h1 => exact ⟨_, (N9 _ (List.mem_cons_self ..)).1, rfl, _, rfl⟩
  case h2 => exact ⟨⟨_, ys1.toList, rfl, ⟨_, (N9 (K1, listOf ys1 _) (by walk_at "lmem")).1, rfl, _, by rw [Array.toArray_toList]⟩, hW1⟩, ⟨⟨_, _, rfl, ⟨_, (Nt _ m3).1, rfl, _, rfl⟩, w3⟩, trivial⟩⟩
  case h3 => simp only [List.map_cons, List.map_nil, List.sum_cons, List.sum_nil, l3]; omega
  intro h7 tk7 tt K2 ys2 n7 hx7 hK7 hKo hW2
  (try dsimp only at hx7 hK7 hKo hW2)
  have F10 := fr_ext F9 hx7
  have N10 := news_add F9 N9 hx7 hK7 hKo
  clear F9 N9 Nt
  rw [e4] at hW2
  (repeat' (first | ((fail_if_success (with_reducible show wpAny _ _ (execs _ _) _ _ _)); (fail_if_success (with_reducible show wpAny _ _ (call (Value.ref _) _ _) _ _ _)); (fail_if_success (with_reducible show wpAny _ _ (call (Value.type _) [Value.ref _] _) _ _ _)); (fail_if_success (with_reducible show wpAny _ _ (binaryOp _ (Value.ref _) (Value.ref _)) _ _ _)); (fail_if_success (with_reducible show wpAny _ _ (compareOp _ (Value.ref _) (Value.ref _)) _ _ _)); (fail_if_success (with_reducible show wpAny _ _ (compareOp _ (Value.bytes _ _) (Value.bytes _ _)) _ _ _)); (fail_if_success (with_reducible show wpAny _ _ (eval (Expr.ListComp _ _ _ _) _) _ _ _)); (first | (k_unfold; (try dsimp only)) | (k_end; wrow_close) | walk1 | (dsimp only; walk1) | (leave1; walk_say "STEP leave1"; try dsimp only))) | fail "no step"))
  all_goals (first | (first | exact (0 : Nat) | exact Str.ofString "" | exact Value.none | exact ([] : List (Str × Addr))) | skip)
  (rename News _ _ _ _ => N9)
  (rename Fr _ _ _ _ => F9)
  have Nt : News s.heap s.heap.objs.size _ t := fun p hp => N9 p (by walk_at "lmem")
  refine ne_rows (rs := insAll (spec ks) (S0 ++ S1 ++ S2 ++ S3)) ⟨_, (N9 (K2, listOf ys2 _) (by walk_at "lmem")).1, rfl, _, by rw [Array.toArray_toList]⟩ hW2 ⟨_, (Nt _ hF).1, rfl, _, rfl⟩ rF (by walk_at "hroom") ?_
  clear Nt
  (repeat' (first | ((fail_if_success (with_reducible show wpAny _ _ (execs _ _) _ _ _)); (fail_if_success (with_reducible show wpAny _ _ (call (Value.ref _) _ _) _ _ _)); (fail_if_success (with_reducible show wpAny _ _ (call (Value.type _) [Value.ref _] _) _ _ _)); (fail_if_success (with_reducible show wpAny _ _ (binaryOp _ (Value.ref _) (Value.ref _)) _ _ _)); (fail_if_success (with_reducible show wpAny _ _ (compareOp _ (Value.ref _) (Value.ref _)) _ _ _)); (fail_if_success (with_reducible show wpAny _ _ (compareOp _ (Value.bytes _ _) (Value.bytes _ _)) _ _ _)); (fail_if_success (with_reducible show wpAny _ _ (eval (Expr.ListComp _ _ _ _) _) _ _ _)); (first | (k_unfold; (try dsimp only)) | (k_end; wrow_close) | walk1 | (dsimp only; walk1) | (leave1; walk_say "STEP leave1"; try dsimp only))) | fail "no step"))
  all_goals (first | (first | exact (0 : Nat) | exact Str.ofString "" | exact Value.none | exact ([] : List (Str × Addr))) | skip)
  (rename News _ _ _ _ => N9)
  (rename Fr _ _ _ _ => F9)
  have Nt : News s.heap s.heap.objs.size _ t := fun p hp => N9 p (by walk_at "lmem")
  refine' mergedrows (ks := kn) (vl := []) (rss := []) ?kX ?kT ?kD ?kU ?h0 ?h1 ?h2 ?h3 ?_
  case kX => k_in
  case kT => walk_at "htop"
  case kD => walk_at "hroom"
  case kU => walk_at "hroom"
  case h0 => exact keysAt_led N9 (fun p hp => by walk_at "lmem") (by walk_at "lmem") (by walk_at "lmem") (by walk_at "lmem") (by walk_at "lmem") hK
  case h1 => exact ⟨_, (N9 _ (List.mem_cons_self ..)).1, rfl, _, rfl⟩
  case h2 => exact trivial
  case h3 => simp
  intro h7 tk7 tt K3 ys3 n7 hx7 hK7 hKo hW3
  (try dsimp only at hx7 hK7 hKo hW3)
  have F10 := fr_ext F9 hx7
  have N10 := news_add F9 N9 hx7 hK7 hKo
  clear F9 N9 Nt
  replace hW3 : RowsAre ys3.toList [] := hW3
  (repeat' (first | ((fail_if_success (with_reducible show wpAny _ _ (execs _ _) _ _ _)); (fail_if_success (with_reducible show wpAny _ _ (call (Value.ref _) _ _) _ _ _)); (fail_if_success (with_reducible show wpAny _ _ (call (Value.type _) [Value.ref _] _) _ _ _)); (fail_if_success (with_reducible show wpAny _ _ (binaryOp _ (Value.ref _) (Value.ref _)) _ _ _)); (fail_if_success (with_reducible show wpAny _ _ (compareOp _ (Value.ref _) (Value.ref _)) _ _ _)); (fail_if_success (with_reducible show wpAny _ _ (compareOp _ (Value.bytes _ _) (Value.bytes _ _)) _ _ _)); (fail_if_success (with_reducible show wpAny _ _ (eval (Expr.ListComp _ _ _ _) _) _ _ _)); (first | (k_unfold; (try dsimp only)) | (k_end; wrow_close) | walk1 | (dsimp only; walk1) | (leave1; walk_say "STEP leave1"; try dsimp only))) | fail "no step"))
  all_goals (first | (first | exact (0 : Nat) | exact Str.ofString "" | exact Value.none | exact ([] : List (Str × Addr))) | skip)
  (rename News _ _ _ _ => N9)
  (rename Fr _ _ _ _ => F9)
  have Nt : News s.heap s.heap.objs.size _ t := fun p hp => N9 p (by walk_at "lmem")
  refine ne_rows (rs := []) ⟨_, (N9 (K3, listOf ys3 _) (by walk_at "lmem")).1, rfl, _, by rw [Array.toArray_toList]⟩ hW3 ⟨_, (N9 _ (List.mem_cons_self ..)).1, rfl, _, rfl⟩ .nil (by walk_at "hroom") ?_
  clear Nt
  (repeat' (first | ((fail_if_success (with_reducible show wpAny _ _ (execs _ _) _ _ _)); (fail_if_success (with_reducible show wpAny _ _ (call (Value.ref _) _ _) _ _ _)); (fail_if_success (with_reducible show wpAny _ _ (call (Value.type _) [Value.ref _] _) _ _ _)); (fail_if_success (with_reducible show wpAny _ _ (binaryOp _ (Value.ref _) (Value.ref _)) _ _ _)); (fail_if_success (with_reducible show wpAny _ _ (compareOp _ (Value.ref _) (Value.ref _)) _ _ _)); (fail_if_success (with_reducible show wpAny _ _ (compareOp _ (Value.bytes _ _) (Value.bytes _ _)) _ _ _)); (fail_if_success (with_reducible show wpAny _ _ (eval (Expr.ListComp _ _ _ _) _) _ _ _)); (first | (k_unfold; (try dsimp only)) | (k_end; wrow_close) | walk1 | (dsimp only; walk1) | (leave1; walk_say "STEP leave1"; try dsimp only))) | fail "no step"))
  all_goals (first | (first | exact (0 : Nat) | exact Str.ofString "" | exact Value.none | exact ([] : List (Str × Addr))) | skip)
  (rename News _ _ _ _ => N9)
  (rename Fr _ _ _ _ => F9)
  have Nt : News s.heap s.heap.objs.size _ t := fun p hp => N9 p (by walk_at "lmem")
  refine' mergedrows (ks := kn) (vl := [.ref FA]) (rss := [insAll (spec ks) (S0 ++ S1 ++ S2 ++ S3)]) ?kX ?kT ?kD ?kU ?h0 ?h1 ?h2 ?h3 ?_
  case kX => k_in
  case kT => walk_at "htop"
  case kD => walk_at "hroom"
  case kU => walk_at "hroom"
  case h0 => exact keysAt_led N9 (fun p hp => by walk_at "lmem") (by walk_at "lmem") (by walk_at "lmem") (by walk_at "lmem") (by walk_at "lmem") hK
  case h1 => exact ⟨_, (N9 _ (List.mem_cons_self ..)).1, rfl, _, rfl⟩
  case h2 => exact ⟨⟨_, _, rfl, ⟨_, (Nt _ hF).1, rfl, _, rfl⟩, rF⟩, trivial⟩
  case h3 => simp only [List.map_cons, List.map_nil, List.sum_cons, List.sum_nil]; omega
  intro h7 tk7 tt K4 ys4 n7 hx7 hK7 hKo hW4
  (try dsimp only at hx7 hK7 hKo hW4)
  have F10 := fr_ext F9 hx7
  have N10 := news_add F9 N9 hx7 hK7 hKo
  clear F9 N9 Nt
  rw [e1] at hW4
  (repeat' (first | ((fail_if_success (with_reducible show wpAny _ _ (execs _ _) _ _ _)); (fail_if_success (with_reducible show wpAny _ _ (call (Value.ref _) _ _) _ _ _)); (fail_if_success (with_reducible show wpAny _ _ (call (Value.type _) [Value.ref _] _) _ _ _)); (fail_if_success (with_reducible show wpAny _ _ (binaryOp _ (Value.ref _) (Value.ref _)) _ _ _)); (fail_if_success (with_reducible show wpAny _ _ (compareOp _ (Value.ref _) (Value.ref _)) _ _ _)); (fail_if_success (with_reducible show wpAny _ _ (compareOp _ (Value.bytes _ _) (Value.bytes _ _)) _ _ _)); (fail_if_success (with_reducible show wpAny _ _ (eval (Expr.ListComp _ _ _ _) _) _ _ _)); (first | (k_unfold; (try dsimp only)) | (k_end; wrow_close) | walk1 | (dsimp only; walk1) | (leave1; walk_say "STEP leave1"; try dsimp only))) | fail "no step"))
  all_goals (first | (first | exact (0 : Nat) | exact Str.ofString "" | exact Value.none | exact ([] : List (Str × Addr))) | skip)
  (rename News _ _ _ _ => N9)
  (rename Fr _ _ _ _ => F9)
  have Nt : News s.heap s.heap.objs.size _ t := fun p hp => N9 p (by walk_at "lmem")
  refine ne_rows (rs := insAll (spec ks) (S0 ++ S1 ++ S2 ++ S3)) ⟨_, (N9 (K4, listOf ys4 _) (by walk_at "lmem")).1, rfl, _, by rw [Array.toArray_toList]⟩ hW4 ⟨_, (Nt _ hF).1, rfl, _, rfl⟩ rF (by walk_at "hroom") ?_
  clear Nt
  (repeat' (first | ((fail_if_success (with_reducible show wpAny _ _ (execs _ _) _ _ _)); (fail_if_success (with_reducible show wpAny _ _ (call (Value.ref _) _ _) _ _ _)); (fail_if_success (with_reducible show wpAny _ _ (call (Value.type _) [Value.ref _] _) _ _ _)); (fail_if_success (with_reducible show wpAny _ _ (binaryOp _ (Value.ref _) (Value.ref _)) _ _ _)); (fail_if_success (with_reducible show wpAny _ _ (compareOp _ (Value.ref _) (Value.ref _)) _ _ _)); (fail_if_success (with_reducible show wpAny _ _ (compareOp _ (Value.bytes _ _) (Value.bytes _ _)) _ _ _)); (fail_if_success (with_reducible show wpAny _ _ (eval (Expr.ListComp _ _ _ _) _) _ _ _)); (first | (k_unfold; (try dsimp only)) | (k_end; wrow_close) | walk1 | (dsimp only; walk1) | (leave1; walk_say "STEP leave1"; try dsimp only))) | fail "no step"))
  all_goals (first | (first | exact (0 : Nat) | exact Str.ofString "" | exact Value.none | exact ([] : List (Str × Addr))) | skip)
  (first | (k_unfold; (try dsimp only)) | (k_end; wrow_close) | walk1 | (dsimp only; walk1) | (leave1; walk_say "STEP leave1"; try dsimp only))
  (((try dsimp only); (repeat (k_unfold; (try dsimp only)))))
  (rename News _ _ _ _ => N9)
  (rename Fr _ _ _ _ => F9)
  have N8 : News s.heap s.heap.objs.size _ (led tx txd q1 v1 n1 sh shd q2 v2 n2 (s.heap.objs.size + 1 + 1 + 1) (s.heap.objs.size + 1 + 1) (s.heap.objs.size + 1) oc ob oa t) := fun p hp => N9 p (by
    revert p
    dsimp only [led, base7, List.cons_append, List.nil_append]
    (((repeat (refine List.forall_mem_cons.mpr ⟨?_, ?_⟩; (focus walk_at "lmem"))); first | exact fun _ h => absurd h List.not_mem_nil | (intro p9 hp9; walk_at "lmem"))))
  refine lawB13 (txd := txd) (q1 := q1) (v1 := v1) (n1 := n1) (shd := shd) (q2 := q2) (v2 := v2) (n2 := n2) (ks := ks) (kn := kn) (FA := FA) (nF := nF) (vF := vF) (S0 := S0) (S1 := S1) (S2 := S2) (S3 := S3) (t := t) X T hd hu B ⟨hsm, F9, N8, hc, hb, ha, ht, hW, hK, hsp, by (((try dsimp only); repeat (first | assumption | exact if_pos rfl | (refine (if_neg ?hx153).trans ?_; (case hx153 => decide))))), by (((try dsimp only); repeat (first | assumption | exact if_pos rfl | (refine (if_neg ?hx154).trans ?_; (case hx154 => decide)))))⟩ o0 o1 o2 o3 hR (by (((try dsimp only); repeat (first | assumption | exact if_pos rfl | (refine (if_neg ?hx155).trans ?_; (case hx155 => decide)))))) hF rF ?fq
  case fq => (intro h9 tk9 hx9; exact hQ _ _ hx9)
end
-- Lf11
section
local macro_rules | `(tactic| k_all) => `(tactic| assumption)
set_option maxRecDepth 100000 in
set_option maxHeartbeats 8000000 in
theorem lawB11 : ∀ {w : World} {mean : ExcName → Option Value} {mg mb : Str → Option Value} {s : Shared} {dp un : Nat} {base : Heap} {outer : List Env} {gd : Option (List Code)} {Q : Flow → Shared → Prop}
   {h : Heap} {m : Str → Option Value} {tk : Nat} {sm : Int} {tsm : Tok} {tx txd : Addr} {q1 : HK} {v1 : Value} {n1 : Nat} {sh shd : Addr} {q2 : HK} {v2 : Value} {n2 : Nat} {oc ob oa : Obj} {W D : Addr} {ks kn : List KeyD} {t : List (Addr × Obj)} {S0 S1 S2 S3 : List Row} {GA : Addr} {nG : Nat} {vG : List Value} {HA : Addr} {nH : Nat} {vH : List Value} {UA : Addr} {nU : Nat} {vU : List Value} {FA : Addr} {nF : Nat} {vF : List Value},
   (Mine.hd.heap_39 w.params).In s.heap → Top Mine.hd.view_39 LL mean mg mb s.heap → dp + 40 < recursionLimit → un + 400 < cLine → Below ⟨none, dp, some outer, gd, un⟩ base outer s.heap →
   Com s h m sm tsm tx txd q1 v1 n1 sh shd q2 v2 n2 oc ob oa W D ks kn t →
   (Srt (spec ks) S0) →
   (Srt (spec ks) S1) →
   (Srt (spec ks) S2) →
   (Srt (spec ks) S3) →
   (2 ≤ S0.length + S1.length + S2.length + S3.length ∧ S0.length + S1.length + S2.length + S3.length ≤ 8) →
   (m (Str.ofString "given") = some (.ref GA)) →
   ((GA, listOf vG.toArray nG) ∈ t) →
   (BLs t vG [S0, S1, S2, S3]) →
   (m (Str.ofString "held") = some (.ref HA)) →
   ((HA, listOf vH.toArray nH) ∈ t) →
   (BLs t vH [S0, S1, S2, S3]) →
   (m (Str.ofString "due") = some (.ref UA)) →
   ((UA, listOf vU.toArray nU) ∈ t) →
   (WL t vU (insAll (spec ks) (S0 ++ S1 ++ S2 ++ S3))) →
   (m (Str.ofString "found") = some (.ref FA)) →
   ((FA, listOf vF.toArray nF) ∈ t) →
   (RowsAre vF (insAll (spec ks) (S0 ++ S1 ++ S2 ++ S3))) →
   (∀ h' tk', Ext s.heap h' → Q (.ret (.bool true)) { s with heap := h', toks := tk' }) →
   wpAny (model Challenge.rw_pc0145_01.row.prog w) (Around.deeper ⟨none, dp, some outer, gd, un⟩ (lawEnv s.heap.objs.size)) (execs (lawBody.drop 11) (lawEnv s.heap.objs.size)) Q (fun _ _ => False) { s with heap := h, toks := tk } := by
  k_fill
  intro w mean mg mb s dp un base outer gd Q h m tk sm tsm tx txd q1 v1 n1 sh shd q2 v2 n2 oc ob oa W D ks kn t S0 S1 S2 S3 GA nG vG HA nH vH UA nU vU FA nF vF X T hd hu B hC o0 o1 o2 o3 hR mG hG bG mH hH bH mU hU wU mF hF rF hQ
  obtain ⟨hsm, F, N, hc, hb, ha, ht, hW, hK, hsp, mkk, mss⟩ := hC
  replace F := fr_fix F mkk
  replace F := fr_fix F (y := Str.ofString "given") (v := .ref GA) (by (((try dsimp only); repeat (first | assumption | exact if_pos rfl | (refine (if_neg ?hx156).trans ?_; (case hx156 => decide))))))
  replace F := fr_fix F (y := Str.ofString "held") (v := .ref HA) (by (((try dsimp only); repeat (first | assumption | exact if_pos rfl | (refine (if_neg ?hx157).trans ?_; (case hx157 => decide))))))
  replace F := fr_fix F (y := Str.ofString "due") (v := .ref UA) (by (((try dsimp only); repeat (first | assumption | exact if_pos rfl | (refine (if_neg ?hx158).trans ?_; (case hx158 => decide))))))
  replace F := fr_fix F (y := Str.ofString "found") (v := .ref FA) (by (((try dsimp only); repeat (first | assumption | exact if_pos rfl | (refine (if_neg ?hx159).trans ?_; (case hx159 => decide))))))
  have lR : (insAll (spec ks) (S0 ++ S1 ++ S2 ++ S3)).length ≤ 8 := by simp only [insAll_length, List.length_append]; omega
  conv in (List.drop 11 lawBody) => whnf
  dsimp only [led, base7, List.cons_append, List.nil_append] at N
  (try k_fold)
  (first | (k_unfold; (try dsimp only)) | (k_end; wrow_close) | walk1 | (dsimp only; walk1) | (leave1; walk_say "STEP leave1"; try dsimp only))
  (repeat' (first | ((fail_if_success (with_reducible show wpAny _ _ (execs _ _) _ _ _)); (fail_if_success (with_reducible show wpAny _ _ (call (Value.ref _) _ _) _ _ _)); (fail_if_success (with_reducible show wpAny _ _ (call (Value.type _) [Value.ref _] _) _ _ _)); (fail_if_success (with_reducible show wpAny _ _ (binaryOp _ (Value.ref _) (Value.ref _)) _ _ _)); (fail_if_success (with_reducible show wpAny _ _ (compareOp _ (Value.ref _) (Value.ref _)) _ _ _)); (fail_if_success (with_reducible show wpAny _ _ (compareOp _ (Value.bytes _ _) (Value.bytes _ _)) _ _ _)); (fail_if_success (with_reducible show wpAny _ _ (eval (Expr.ListComp _ _ _ _) _) _ _ _)); (first | (k_unfold; (try dsimp only)) | (k_end; wrow_close) | walk1 | (dsimp only; walk1) | (leave1; walk_say "STEP leave1"; try dsimp only))) | fail "no step"))
  all_goals (first | (first | exact (0 : Nat) | exact Str.ofString "" | exact Value.none | exact ([] : List (Str × Addr))) | skip)
  ((with_unfolding_all refine' comp_F ?hhx164 ?hclosx164 ?hcellx164 ?hkindx164 ?hnamesx164 ?hxx164 ?_ ?hsx164; (case hhx164 => rfl); (case hclosx164 => with_unfolding_all rfl); (case hcellx164 => decide); (case hkindx164 => with_unfolding_all rfl); (case hnamesx164 => decide); (case hxx164 => with_unfolding_all rfl); (case hsx164 => intro _; with_unfolding_all rfl)))
  k_steps
  all_goals (first | (first | exact (0 : Nat) | exact Str.ofString "" | exact Value.none | exact ([] : List (Str × Addr))) | skip)
  (rename News _ _ _ _ => N9)
  (rename Fr _ _ _ _ => F9)
  have ht9 : ∀ p ∈ t, p ∈ (_ : List (Addr × Obj)) := (by intro p hp; walk_at "lmem" : ∀ p ∈ t, p ∈ (txd, dictOf (txtEs q1 v1) n1) :: (tx, instObj 111 txd) :: (shd, dictOf (numEs q2 v2) n2) :: (sh, instObj 111 shd) :: (s.heap.objs.size + 1 + 1 + 1, oc) :: (s.heap.objs.size + 1 + 1, ob) :: (s.heap.objs.size + 1, oa) :: t)
  with_unfolding_all refine' cfp_intro vU (fun _ => true) (OctOf t) ?g1 ?g2 F9 N9 ?g3 ?g4 ?g5
  case g1 => exact ⟨_, (N9 _ (ht9 _ hU)).1, rfl, _, rfl⟩
  case g2 => rw [wU.length]; exact Nat.le_trans lR (by decide)
  case g3 =>
    intro C v s₂ m₂ E' hv' F2 N2 hE2
    k_steps
    all_goals (try (((try dsimp only); (repeat (k_unfold; (try dsimp only))))))
    all_goals (first | (exact ⟨_, _, rfl, fun b o e => by repeat (first | exact e | refine Heap.get?_push_of_some _ ?_ | assumption | (rename Ext _ _ => hx'; first | exact hx' _ _ e | (refine hx' _ _ ?_; clear hx') | clear hx'))⟩) | exact ⟨rfl, by (exact ⟨_, _, rfl, fun b o e => by repeat (first | exact e | refine Heap.get?_push_of_some _ ?_ | assumption | (rename Ext _ _ => hx'; first | exact hx' _ _ e | (refine hx' _ _ ?_; clear hx') | clear hx'))⟩)⟩ | (first | exact (0 : Nat) | exact Str.ofString "" | exact Value.none | exact ([] : List (Str × Addr))))
  case g4 =>
    intro C v s₂ m₂ E' hv' hp' F2 N2 hE2
    obtain ⟨r, hr⟩ := wU.mem hv'
    obtain ⟨b, t1, t2, t3, n9, rfl, hm⟩ := id hr
    have N3 := news_front N2 (ht9 _ hm)
    clear N2
    dsimp only [tupO] at N3
    have hoc : ∀ y, (∃ u, y = .bytes r.oct u) → OctOf t (.ref b) y := fun y e => oct_of N3 (fun p hp => List.mem_cons_of_mem _ (ht9 p hp)) hr e
    have hnum0 : NumAt s₂.heap sh shd q2 v2 n2 := InstAt.of_news N3 (by walk_at "lmem") (by walk_at "lmem")
    have hw4 := dec_four r.ok
    (repeat' (first | ((fail_if_success (with_reducible show wpAny _ _ (execs _ _) _ _ _)); (fail_if_success (with_reducible show wpAny _ _ (call (Value.ref _) _ _) _ _ _)); (fail_if_success (with_reducible show wpAny _ _ (call (Value.type _) [Value.ref _] _) _ _ _)); (fail_if_success (with_reducible show wpAny _ _ (binaryOp _ (Value.ref _) (Value.ref _)) _ _ _)); (fail_if_success (with_reducible show wpAny _ _ (compareOp _ (Value.ref _) (Value.ref _)) _ _ _)); (fail_if_success (with_reducible show wpAny _ _ (compareOp _ (Value.bytes _ _) (Value.bytes _ _)) _ _ _)); (fail_if_success (with_reducible show wpAny _ _ (eval (Expr.ListComp _ _ _ _) _) _ _ _)); (first | (k_unfold; (try dsimp only)) | (k_end; wrow_close) | walk1 | (dsimp only; walk1) | (leave1; walk_say "STEP leave1"; try dsimp only))) | fail "no step"))
    all_goals (first | (first | exact (0 : Nat) | exact Str.ofString "" | exact Value.none | exact ([] : List (Str × Addr))) | skip)
    (rename News _ _ _ _ => N8)
    (rename Fr _ _ _ _ => F8)
    refine' octetsfor (sh := sh) (d := shd) (q := q2) (vp := v2) (n := n2) (u := r.w) ?kX ?kT ?kD ?kU ?h0 ?h1 ?_
    case kX => k_in
    case kT => walk_at "htop"
    case kD => walk_at "hroom"
    case kU => walk_at "hroom"
    case h0 => walk_at "hnum"
    case h1 => exact hw4
    intro h8 tk8 tt a8 b8 hx8 hdec
    (try dsimp only at hx8)
    have F10 := fr_ext F8 hx8
    have N10 := news_ext N8 hx8
    clear F8 N8
    repeat' (first | (fail_if_success (with_reducible show wpAny _ _ (newList _) _ _ _)); (first | (k_unfold; (try dsimp only)) | (k_end; wrow_close) | walk1 | (dsimp only; walk1) | (leave1; walk_say "STEP leave1"; try dsimp only)) | fail "no")
    all_goals (first | (first | exact (0 : Nat) | exact Str.ofString "" | exact Value.none | exact ([] : List (Str × Addr))) | skip)
    (rename News _ _ _ _ => N8)
    (rename Fr _ _ _ _ => F8)
    refine mk_list F8 N8 (by size_fits) ?_
    intro h9 D9 hx9 F11 N11
    (try dsimp only at hx9)
    clear F8 N8
    (repeat' (first | ((fail_if_success (with_reducible show wpAny _ _ (execs _ _) _ _ _)); (fail_if_success (with_reducible show wpAny _ _ (call (Value.ref _) _ _) _ _ _)); (fail_if_success (with_reducible show wpAny _ _ (call (Value.type _) [Value.ref _] _) _ _ _)); (fail_if_success (with_reducible show wpAny _ _ (binaryOp _ (Value.ref _) (Value.ref _)) _ _ _)); (fail_if_success (with_reducible show wpAny _ _ (compareOp _ (Value.ref _) (Value.ref _)) _ _ _)); (fail_if_success (with_reducible show wpAny _ _ (compareOp _ (Value.bytes _ _) (Value.bytes _ _)) _ _ _)); (fail_if_success (with_reducible show wpAny _ _ (eval (Expr.ListComp _ _ _ _) _) _ _ _)); (first | (k_unfold; (try dsimp only)) | (k_end; wrow_close) | walk1 | (dsimp only; walk1) | (leave1; walk_say "STEP leave1"; try dsimp only))) | fail "no step"))
    all_goals (first | (first | exact (0 : Nat) | exact Str.ofString "" | exact Value.none | exact ([] : List (Str × Addr))) | skip)
    (rename News _ _ _ _ => N8)
    (rename Fr _ _ _ _ => F8)
    refine call_bytes_ints (ns := [(r.n.toNat : Int)]) ⟨_, (N8 _ (List.mem_cons_self ..)).1, rfl, _, rfl⟩ (.cons _ _ .nil) (by have := r.n.toNat_lt; simp only [List.mem_singleton]; rintro _ rfl; omega) (by exact (by decide : 1 ≤ sizeLine)) rfl ?_
    intro h11 t11 k11 hk11
    rw [byteArr_one]
    (try dsimp only at hk11)
    have F12 := fr_ext F8 hk11
    have N12 := news_ext N8 hk11
    clear F8 N8
    repeat' (first | (fail_if_success (with_reducible show _ ∧ _)); (first | (k_unfold; (try dsimp only)) | (k_end; wrow_close) | walk1 | (dsimp only; walk1) | (leave1; walk_say "STEP leave1"; try dsimp only)) | fail "no")
    all_goals (first | (first | exact (0 : Nat) | exact Str.ofString "" | exact Value.none | exact ([] : List (Str × Addr))) | skip)
    (try (((try dsimp only); (repeat (k_unfold; (try dsimp only))))))
    refine ⟨hoc _ ?_, _, _, rfl, fun b o e => hk11 _ _ (hx9 _ _ (hx8 _ _ e))⟩
    refine ⟨_, bytes_eq ?_⟩
    obtain ⟨e5, e6⟩ := dec_inj hdec r.ok
    subst e5 e6
    rfl
  case g5 =>
    intro D7 ys7 n7 h7 tk7 hx7 hKn F10 N10 hP
    have hrows := octs_rows wU hP
    clear F9 N9
    have ht10 : ∀ p ∈ t, p ∈ (_ : List (Addr × Obj)) := fun p hp => List.mem_cons_of_mem (D7, listOf ys7.toArray n7) (ht9 p hp)
    (repeat' (first | ((fail_if_success (with_reducible show wpAny _ _ (execs _ _) _ _ _)); (fail_if_success (with_reducible show wpAny _ _ (call (Value.ref _) _ _) _ _ _)); (fail_if_success (with_reducible show wpAny _ _ (call (Value.type _) [Value.ref _] _) _ _ _)); (fail_if_success (with_reducible show wpAny _ _ (binaryOp _ (Value.ref _) (Value.ref _)) _ _ _)); (fail_if_success (with_reducible show wpAny _ _ (compareOp _ (Value.ref _) (Value.ref _)) _ _ _)); (fail_if_success (with_reducible show wpAny _ _ (compareOp _ (Value.bytes _ _) (Value.bytes _ _)) _ _ _)); (fail_if_success (with_reducible show wpAny _ _ (eval (Expr.ListComp _ _ _ _) _) _ _ _)); (first | (k_unfold; (try dsimp only)) | (k_end; wrow_close) | walk1 | (dsimp only; walk1) | (leave1; walk_say "STEP leave1"; try dsimp only))) | fail "no step"))
    all_goals (first | (first | exact (0 : Nat) | exact Str.ofString "" | exact Value.none | exact ([] : List (Str × Addr))) | skip)
    (rename News _ _ _ _ => N9)
    (rename Fr _ _ _ _ => F9)
    refine ne_rows (rs := insAll (spec ks) (S0 ++ S1 ++ S2 ++ S3)) ⟨_, (N9 _ (ht10 _ hF)).1, rfl, _, rfl⟩ rF ⟨_, (N9 _ (List.mem_cons_self ..)).1, rfl, _, rfl⟩ hrows (by walk_at "hroom") ?_
    (repeat' (first | ((fail_if_success (with_reducible show wpAny _ _ (execs _ _) _ _ _)); (fail_if_success (with_reducible show wpAny _ _ (call (Value.ref _) _ _) _ _ _)); (fail_if_success (with_reducible show wpAny _ _ (call (Value.type _) [Value.ref _] _) _ _ _)); (fail_if_success (with_reducible show wpAny _ _ (binaryOp _ (Value.ref _) (Value.ref _)) _ _ _)); (fail_if_success (with_reducible show wpAny _ _ (compareOp _ (Value.ref _) (Value.ref _)) _ _ _)); (fail_if_success (with_reducible show wpAny _ _ (compareOp _ (Value.bytes _ _) (Value.bytes _ _)) _ _ _)); (fail_if_success (with_reducible show wpAny _ _ (eval (Expr.ListComp _ _ _ _) _) _ _ _)); (first | (k_unfold; (try dsimp only)) | (k_end; wrow_close) | walk1 | (dsimp only; walk1) | (leave1; walk_say "STEP leave1"; try dsimp only))) | fail "no step"))
    all_goals (first | (first | exact (0 : Nat) | exact Str.ofString "" | exact Value.none | exact ([] : List (Str × Addr))) | skip)
    refine ne_lls (rss := [S0, S1, S2, S3]) ⟨_, (N9 _ (ht10 _ hG)).1, rfl, _, rfl⟩ (bG.at N9 ht10) ⟨_, (N9 _ (ht10 _ hH)).1, rfl, _, rfl⟩ (bH.at N9 ht10) (by walk_at "hroom") ?_
    (repeat' (first | ((fail_if_success (with_reducible show wpAny _ _ (execs _ _) _ _ _)); (fail_if_success (with_reducible show wpAny _ _ (call (Value.ref _) _ _) _ _ _)); (fail_if_success (with_reducible show wpAny _ _ (call (Value.type _) [Value.ref _] _) _ _ _)); (fail_if_success (with_reducible show wpAny _ _ (binaryOp _ (Value.ref _) (Value.ref _)) _ _ _)); (fail_if_success (with_reducible show wpAny _ _ (compareOp _ (Value.ref _) (Value.ref _)) _ _ _)); (fail_if_success (with_reducible show wpAny _ _ (compareOp _ (Value.bytes _ _) (Value.bytes _ _)) _ _ _)); (fail_if_success (with_reducible show wpAny _ _ (eval (Expr.ListComp _ _ _ _) _) _ _ _)); (first | (k_unfold; (try dsimp only)) | (k_end; wrow_close) | walk1 | (dsimp only; walk1) | (leave1; walk_say "STEP leave1"; try dsimp only))) | fail "no step"))
    all_goals (first | (first | exact (0 : Nat) | exact Str.ofString "" | exact Value.none | exact ([] : List (Str × Addr))) | skip)
    have hsk : spec kn = spec ks := by simp only [spec, hsp]
    have eo := ahead_ord (ks.map fun k => (k.asc, k.num))
    refine' isinorder (ks := kn) (va := vF) (ra := insAll (spec ks) (S0 ++ S1 ++ S2 ++ S3)) ?kX ?kT ?kD ?kU ?h0 ?h1 ?h2 ?h3 ?h4 ?_
    case kX => k_in
    case kT => walk_at "htop"
    case kD => walk_at "hroom"
    case kU => walk_at "hroom"
    case h0 => exact keysAt_led N9 ht10 (by walk_at "lmem") (by walk_at "lmem") (by walk_at "lmem") (by walk_at "lmem") hK
    case h1 => exact ⟨_, (N9 _ (ht10 _ hF)).1, rfl, _, rfl⟩
    case h2 => exact rF
    case h3 => omega
    case h4 => rw [hsk]; exact fun i h => srt_at (insAll_srt eo) i h
    intro h8 tk8 tt hx8
    (try dsimp only at hx8)
    have F11 := fr_ext F9 hx8
    have N11 := news_ext N9 hx8
    clear F9 N9
    (repeat' (first | ((fail_if_success (with_reducible show wpAny _ _ (execs _ _) _ _ _)); (fail_if_success (with_reducible show wpAny _ _ (call (Value.ref _) _ _) _ _ _)); (fail_if_success (with_reducible show wpAny _ _ (call (Value.type _) [Value.ref _] _) _ _ _)); (fail_if_success (with_reducible show wpAny _ _ (binaryOp _ (Value.ref _) (Value.ref _)) _ _ _)); (fail_if_success (with_reducible show wpAny _ _ (compareOp _ (Value.ref _) (Value.ref _)) _ _ _)); (fail_if_success (with_reducible show wpAny _ _ (compareOp _ (Value.bytes _ _) (Value.bytes _ _)) _ _ _)); (fail_if_success (with_reducible show wpAny _ _ (eval (Expr.ListComp _ _ _ _) _) _ _ _)); (first | (k_unfold; (try dsimp only)) | (k_end; wrow_close) | walk1 | (dsimp only; walk1) | (leave1; walk_say "STEP leave1"; try dsimp only))) | fail "no step"))
    all_goals (first | (first | exact (0 : Nat) | exact Str.ofString "" | exact Value.none | exact ([] : List (Str × Addr))) | skip)
    (first | (k_unfold; (try dsimp only)) | (k_end; wrow_close) | walk1 | (dsimp only; walk1) | (leave1; walk_say "STEP leave1"; try dsimp only))
    (((try dsimp only); (repeat (k_unfold; (try dsimp only)))))
    (rename News _ _ _ _ => N9)
    (rename Fr _ _ _ _ => F9)
    have N8 : News s.heap s.heap.objs.size _ (led tx txd q1 v1 n1 sh shd q2 v2 n2 (s.heap.objs.size + 1 + 1 + 1) (s.heap.objs.size + 1 + 1) (s.heap.objs.size + 1) oc ob oa t) := fun p hp => N9 p (List.mem_cons_of_mem _ hp)
    refine lawB12 (txd := txd) (q1 := q1) (v1 := v1) (n1 := n1) (shd := shd) (q2 := q2) (v2 := v2) (n2 := n2) (ks := ks) (kn := kn) (GA := GA) (nG := nG) (vG := vG) (FA := FA) (nF := nF) (vF := vF) (S0 := S0) (S1 := S1) (S2 := S2) (S3 := S3) (t := t) X T hd hu B ⟨hsm, F9, N8, hc, hb, ha, ht, hW, hK, hsp, by (((try dsimp only); repeat (first | assumption | exact if_pos rfl | (refine (if_neg ?hx195).trans ?_; (case hx195 => decide))))), by (((try dsimp only); repeat (first | assumption | exact if_pos rfl | (refine (if_neg ?hx196).trans ?_; (case hx196 => decide)))))⟩ o0 o1 o2 o3 hR (by (((try dsimp only); repeat (first | assumption | exact if_pos rfl | (refine (if_neg ?hx197).trans ?_; (case hx197 => decide)))))) hG bG (by (((try dsimp only); repeat (first | assumption | exact if_pos rfl | (refine (if_neg ?hx198).trans ?_; (case hx198 => decide)))))) hF rF ?fq
    case fq => (intro h9 tk9 hx9; exact hQ _ _ hx9)
end
-- Lf10
section
local macro_rules | `(tactic| k_all) => `(tactic| assumption)
set_option maxRecDepth 100000 in
set_option maxHeartbeats 8000000 in
theorem lawB10 : ∀ {w : World} {mean : ExcName → Option Value} {mg mb : Str → Option Value} {s : Shared} {dp un : Nat} {base : Heap} {outer : List Env} {gd : Option (List Code)} {Q : Flow → Shared → Prop}
   {h : Heap} {m : Str → Option Value} {tk : Nat} {sm : Int} {tsm : Tok} {tx txd : Addr} {q1 : HK} {v1 : Value} {n1 : Nat} {sh shd : Addr} {q2 : HK} {v2 : Value} {n2 : Nat} {oc ob oa : Obj} {W D : Addr} {ks kn : List KeyD} {t : List (Addr × Obj)} {S0 S1 S2 S3 : List Row} {GA : Addr} {nG : Nat} {vG : List Value} {HA : Addr} {nH : Nat} {vH : List Value} {UA : Addr} {nU : Nat} {vU : List Value},
   (Mine.hd.heap_39 w.params).In s.heap → Top Mine.hd.view_39 LL mean mg mb s.heap → dp + 40 < recursionLimit → un + 400 < cLine → Below ⟨none, dp, some outer, gd, un⟩ base outer s.heap →
   Com s h m sm tsm tx txd q1 v1 n1 sh shd q2 v2 n2 oc ob oa W D ks kn t →
   (Srt (spec ks) S0) →
   (Srt (spec ks) S1) →
   (Srt (spec ks) S2) →
   (Srt (spec ks) S3) →
   (2 ≤ S0.length + S1.length + S2.length + S3.length ∧ S0.length + S1.length + S2.length + S3.length ≤ 8) →
   (m (Str.ofString "given") = some (.ref GA)) →
   ((GA, listOf vG.toArray nG) ∈ t) →
   (BLs t vG [S0, S1, S2, S3]) →
   (m (Str.ofString "held") = some (.ref HA)) →
   ((HA, listOf vH.toArray nH) ∈ t) →
   (BLs t vH [S0, S1, S2, S3]) →
   (m (Str.ofString "due") = some (.ref UA)) →
   ((UA, listOf vU.toArray nU) ∈ t) →
   (WL t vU (insAll (spec ks) (S0 ++ S1 ++ S2 ++ S3))) →
   (∀ h' tk', Ext s.heap h' → Q (.ret (.bool true)) { s with heap := h', toks := tk' }) →
   wpAny (model Challenge.rw_pc0145_01.row.prog w) (Around.deeper ⟨none, dp, some outer, gd, un⟩ (lawEnv s.heap.objs.size)) (execs (lawBody.drop 10) (lawEnv s.heap.objs.size)) Q (fun _ _ => False) { s with heap := h, toks := tk } := by
  k_fill
  intro w mean mg mb s dp un base outer gd Q h m tk sm tsm tx txd q1 v1 n1 sh shd q2 v2 n2 oc ob oa W D ks kn t S0 S1 S2 S3 GA nG vG HA nH vH UA nU vU X T hd hu B hC o0 o1 o2 o3 hR mG hG bG mH hH bH mU hU wU hQ
  obtain ⟨hsm, F, N, hc, hb, ha, ht, hW, hK, hsp, mkk, mss⟩ := hC
  replace F := fr_fix (fr_fix F mkk) (m_if (by decide) mG)
  conv in (List.drop 10 lawBody) => whnf
  dsimp only [led, base7, List.cons_append, List.nil_append] at N
  (try k_fold)
  (first | (k_unfold; (try dsimp only)) | (k_end; wrow_close) | walk1 | (dsimp only; walk1) | (leave1; walk_say "STEP leave1"; try dsimp only))
  (repeat' (first | ((fail_if_success (with_reducible show wpAny _ _ (execs _ _) _ _ _)); (fail_if_success (with_reducible show wpAny _ _ (call (Value.ref _) _ _) _ _ _)); (fail_if_success (with_reducible show wpAny _ _ (call (Value.type _) [Value.ref _] _) _ _ _)); (fail_if_success (with_reducible show wpAny _ _ (binaryOp _ (Value.ref _) (Value.ref _)) _ _ _)); (fail_if_success (with_reducible show wpAny _ _ (compareOp _ (Value.ref _) (Value.ref _)) _ _ _)); (fail_if_success (with_reducible show wpAny _ _ (compareOp _ (Value.bytes _ _) (Value.bytes _ _)) _ _ _)); (fail_if_success (with_reducible show wpAny _ _ (eval (Expr.ListComp _ _ _ _) _) _ _ _)); (first | (k_unfold; (try dsimp only)) | (k_end; wrow_close) | walk1 | (dsimp only; walk1) | (leave1; walk_say "STEP leave1"; try dsimp only))) | fail "no step"))
  all_goals (first | (first | exact (0 : Nat) | exact Str.ofString "" | exact Value.none | exact ([] : List (Str × Addr))) | skip)
  (rename News _ _ _ _ => N9)
  (rename Fr _ _ _ _ => F9)
  have ht9 : ∀ p ∈ t, p ∈ (_ : List (Addr × Obj)) := (by intro p hp; walk_at "lmem" : ∀ p ∈ t, p ∈ (txd, dictOf (txtEs q1 v1) n1) :: (tx, instObj 111 txd) :: (shd, dictOf (numEs q2 v2) n2) :: (sh, instObj 111 shd) :: (s.heap.objs.size + 1 + 1 + 1, oc) :: (s.heap.objs.size + 1 + 1, ob) :: (s.heap.objs.size + 1, oa) :: t)
  have hsk : spec kn = spec ks := by simp only [spec, hsp]
  refine' mergedrows (ks := kn) (vl := vG) (rss := [S0, S1, S2, S3]) ?kX ?kT ?kD ?kU ?h0 ?h1 ?h2 ?h3 ?_
  case kX => k_in
  case kT => walk_at "htop"
  case kD => walk_at "hroom"
  case kU => walk_at "hroom"
  case h0 => exact keysAt_led N9 ht9 (by walk_at "lmem") (by walk_at "lmem") (by walk_at "lmem") (by walk_at "lmem") hK
  case h1 => exact ⟨_, (N9 _ (ht9 _ hG)).1, rfl, _, rfl⟩
  case h2 => exact bG.at N9 ht9
  case h3 => simp only [List.map_cons, List.map_nil, List.sum_cons, List.sum_nil]; omega
  intro h7 tk7 tt K ys7 n7 hx7 hK7 hKo hW7
  (try dsimp only at hx7 hK7 hKo hW7)
  have F10 := fr_ext F9 hx7
  have N10 := news_add F9 N9 hx7 hK7 hKo
  have eo := ahead_ord (ks.map fun k => (k.asc, k.num))
  have hYs : RowsAre ys7.toList (insAll (spec ks) (S0 ++ S1 ++ S2 ++ S3)) := by
    have e : mergeAll kn [S0, S1, S2, S3] = insAll (spec ks) (S0 ++ S1 ++ S2 ++ S3) := by
      unfold mergeAll
      rw [hsk]
      exact merge_ins eo o0 o1 o2 o3
    rw [e] at hW7
    exact hW7
  clear F9 N9
  (repeat' (first | ((fail_if_success (with_reducible show wpAny _ _ (execs _ _) _ _ _)); (fail_if_success (with_reducible show wpAny _ _ (call (Value.ref _) _ _) _ _ _)); (fail_if_success (with_reducible show wpAny _ _ (call (Value.type _) [Value.ref _] _) _ _ _)); (fail_if_success (with_reducible show wpAny _ _ (binaryOp _ (Value.ref _) (Value.ref _)) _ _ _)); (fail_if_success (with_reducible show wpAny _ _ (compareOp _ (Value.ref _) (Value.ref _)) _ _ _)); (fail_if_success (with_reducible show wpAny _ _ (compareOp _ (Value.bytes _ _) (Value.bytes _ _)) _ _ _)); (fail_if_success (with_reducible show wpAny _ _ (eval (Expr.ListComp _ _ _ _) _) _ _ _)); (first | (k_unfold; (try dsimp only)) | (k_end; wrow_close) | walk1 | (dsimp only; walk1) | (leave1; walk_say "STEP leave1"; try dsimp only))) | fail "no step"))
  all_goals (first | (first | exact (0 : Nat) | exact Str.ofString "" | exact Value.none | exact ([] : List (Str × Addr))) | skip)
  (((try dsimp only); (repeat (k_unfold; (try dsimp only)))))
  (rename News _ _ _ _ => N9)
  (rename Fr _ _ _ _ => F9)
  have N8 : News s.heap s.heap.objs.size _ (led tx txd q1 v1 n1 sh shd q2 v2 n2 (s.heap.objs.size + 1 + 1 + 1) (s.heap.objs.size + 1 + 1) (s.heap.objs.size + 1) oc ob oa ((K, listOf ys7 n7) :: t)) := fun p hp => N9 p (by
    revert p
    dsimp only [led, base7, List.cons_append, List.nil_append]
    (((repeat (refine List.forall_mem_cons.mpr ⟨?_, ?_⟩; (focus walk_at "lmem"))); first | exact fun _ h => absurd h List.not_mem_nil | (intro p9 hp9; walk_at "lmem"))))
  refine lawB11 (txd := txd) (q1 := q1) (v1 := v1) (n1 := n1) (shd := shd) (q2 := q2) (v2 := v2) (n2 := n2) (ks := ks) (kn := kn) (GA := GA) (nG := nG) (vG := vG) (HA := HA) (nH := nH) (vH := vH) (UA := UA) (nU := nU) (vU := vU) (FA := K) (nF := n7) (vF := ys7.toList) (S0 := S0) (S1 := S1) (S2 := S2) (S3 := S3) (t := (K, listOf ys7 n7) :: t) X T hd hu B ⟨hsm, F9, N8, hc, hb, ha, cons_okL ht, ?fW, ?fK, hsp, by (((try dsimp only); repeat (first | assumption | exact if_pos rfl | (refine (if_neg ?hx208).trans ?_; (case hx208 => decide))))), by (((try dsimp only); repeat (first | assumption | exact if_pos rfl | (refine (if_neg ?hx209).trans ?_; (case hx209 => decide)))))⟩ o0 o1 o2 o3 hR (by (((try dsimp only); repeat (first | assumption | exact if_pos rfl | (refine (if_neg ?hx210).trans ?_; (case hx210 => decide)))))) (List.mem_cons_of_mem _ hG) ?fG (by (((try dsimp only); repeat (first | assumption | exact if_pos rfl | (refine (if_neg ?hx211).trans ?_; (case hx211 => decide)))))) (List.mem_cons_of_mem _ hH) ?fH (by (((try dsimp only); repeat (first | assumption | exact if_pos rfl | (refine (if_neg ?hx212).trans ?_; (case hx212 => decide)))))) (List.mem_cons_of_mem _ hU) ?fV (by (((try dsimp only); repeat (first | assumption | exact if_pos rfl | (refine (if_neg ?hx213).trans ?_; (case hx213 => decide)))))) ?fF hYs ?fq
  case fW => exact hW.mono fun p hp => List.mem_cons_of_mem _ hp
  case fK => exact hK.mono fun p hp => List.mem_cons_of_mem _ hp
  case fG => exact bG.mono fun p hp => List.mem_cons_of_mem _ hp
  case fH => exact bH.mono fun p hp => List.mem_cons_of_mem _ hp
  case fV => exact wU.mono fun p hp => List.mem_cons_of_mem _ hp
  case fF => rw [Array.toArray_toList]; exact List.mem_cons_self ..
  case fq => (intro h9 tk9 hx9; exact hQ _ _ hx9)
end
-- Lf9
section
local macro_rules | `(tactic| k_all) => `(tactic| assumption)
set_option maxRecDepth 100000 in
set_option maxHeartbeats 8000000 in
theorem lawB9 : ∀ {w : World} {mean : ExcName → Option Value} {mg mb : Str → Option Value} {s : Shared} {dp un : Nat} {base : Heap} {outer : List Env} {gd : Option (List Code)} {Q : Flow → Shared → Prop}
   {h : Heap} {m : Str → Option Value} {tk : Nat} {sm : Int} {tsm : Tok} {tx txd : Addr} {q1 : HK} {v1 : Value} {n1 : Nat} {sh shd : Addr} {q2 : HK} {v2 : Value} {n2 : Nat} {oc ob oa : Obj} {W D : Addr} {ks kn : List KeyD} {t : List (Addr × Obj)} {LA : Addr} {nA : Nat} {vA : List Value} {S0 S1 S2 S3 : List Row} {GA : Addr} {nG : Nat} {vG : List Value} {HA : Addr} {nH : Nat} {vH : List Value},
   (Mine.hd.heap_39 w.params).In s.heap → Top Mine.hd.view_39 LL mean mg mb s.heap → dp + 40 < recursionLimit → un + 400 < cLine → Below ⟨none, dp, some outer, gd, un⟩ base outer s.heap →
   Com s h m sm tsm tx txd q1 v1 n1 sh shd q2 v2 n2 oc ob oa W D ks kn t →
   (m (Str.ofString "lists") = some (.ref LA)) →
   ((LA, listOf vA.toArray nA) ∈ t) →
   (LLs t vA [S0, S1, S2, S3]) →
   (Srt (spec ks) S0) →
   (Srt (spec ks) S1) →
   (Srt (spec ks) S2) →
   (Srt (spec ks) S3) →
   (2 ≤ S0.length + S1.length + S2.length + S3.length ∧ S0.length + S1.length + S2.length + S3.length ≤ 8) →
   (m (Str.ofString "given") = some (.ref GA)) →
   ((GA, listOf vG.toArray nG) ∈ t) →
   (BLs t vG [S0, S1, S2, S3]) →
   (m (Str.ofString "held") = some (.ref HA)) →
   ((HA, listOf vH.toArray nH) ∈ t) →
   (BLs t vH [S0, S1, S2, S3]) →
   (∀ h' tk', Ext s.heap h' → Q (.ret (.bool true)) { s with heap := h', toks := tk' }) →
   wpAny (model Challenge.rw_pc0145_01.row.prog w) (Around.deeper ⟨none, dp, some outer, gd, un⟩ (lawEnv s.heap.objs.size)) (execs (lawBody.drop 9) (lawEnv s.heap.objs.size)) Q (fun _ _ => False) { s with heap := h, toks := tk } := by
  k_fill
  intro w mean mg mb s dp un base outer gd Q h m tk sm tsm tx txd q1 v1 n1 sh shd q2 v2 n2 oc ob oa W D ks kn t LA nA vA S0 S1 S2 S3 GA nG vG HA nH vH X T hd hu B hC mA hA lA o0 o1 o2 o3 hR mG hG bG mH hH bH hQ
  obtain ⟨hsm, F, N, hc, hb, ha, ht, hW, hK, hsp, mkk, mss⟩ := hC
  replace F := fr_fix F mA
  obtain ⟨d0, d1, d2, d3, Y0, Y1, Y2, Y3, k0, k1', k2, k3, rfl, m0, w0, m1, w1, m2, w2, m3, w3⟩ := lls4 lA
  have l0 := w0.length
  have l1 := w1.length
  have l2 := w2.length
  have l3 := w3.length
  conv in (List.drop 9 lawBody) => whnf
  have N' := news_front (news_front (news_front (news_front (news_front N (List.mem_append_right _ m3)) (List.mem_cons_of_mem _ (List.mem_append_right _ m2))) (List.mem_cons_of_mem _ (List.mem_cons_of_mem _ (List.mem_append_right _ m1)))) (List.mem_cons_of_mem _ (List.mem_cons_of_mem _ (List.mem_cons_of_mem _ (List.mem_append_right _ m0))))) (List.mem_cons_of_mem _ (List.mem_cons_of_mem _ (List.mem_cons_of_mem _ (List.mem_cons_of_mem _ (List.mem_append_right _ hA)))))
  dsimp only [led, base7, List.cons_append, List.nil_append] at N'
  clear N
  (try k_fold)
  (first | (k_unfold; (try dsimp only)) | (k_end; wrow_close) | walk1 | (dsimp only; walk1) | (leave1; walk_say "STEP leave1"; try dsimp only))
  (repeat' (first | ((fail_if_success (with_reducible show wpAny _ _ (execs _ _) _ _ _)); (fail_if_success (with_reducible show wpAny _ _ (call (Value.ref _) _ _) _ _ _)); (fail_if_success (with_reducible show wpAny _ _ (call (Value.type _) [Value.ref _] _) _ _ _)); (fail_if_success (with_reducible show wpAny _ _ (binaryOp _ (Value.ref _) (Value.ref _)) _ _ _)); (fail_if_success (with_reducible show wpAny _ _ (compareOp _ (Value.ref _) (Value.ref _)) _ _ _)); (fail_if_success (with_reducible show wpAny _ _ (compareOp _ (Value.bytes _ _) (Value.bytes _ _)) _ _ _)); (fail_if_success (with_reducible show wpAny _ _ (eval (Expr.ListComp _ _ _ _) _) _ _ _)); (first | (k_unfold; (try dsimp only)) | (k_end; wrow_close) | walk1 | (dsimp only; walk1) | (leave1; walk_say "STEP leave1"; try dsimp only))) | fail "no step"))
  (rename News _ _ _ _ => N9)
  (rename Fr _ _ _ _ => F9)
  refine' kmk_add_lit (zs := Y0 ++ Y1) F9 N9 ⟨_, (N9 (d0, _) (by walk_at "lmem")).1, rfl, _, rfl⟩ ⟨_, (N9 (d1, _) (by walk_at "lmem")).1, rfl, _, rfl⟩ rfl ?_ ?sz
  case sz => (simp only [List.toList_toArray]; exact Nat.le_trans (by omega : _ ≤ 16) (by decide))
  intro D1 h1 F10 N10 _
  clear F9 N9
  (repeat' (first | ((fail_if_success (with_reducible show wpAny _ _ (execs _ _) _ _ _)); (fail_if_success (with_reducible show wpAny _ _ (call (Value.ref _) _ _) _ _ _)); (fail_if_success (with_reducible show wpAny _ _ (call (Value.type _) [Value.ref _] _) _ _ _)); (fail_if_success (with_reducible show wpAny _ _ (binaryOp _ (Value.ref _) (Value.ref _)) _ _ _)); (fail_if_success (with_reducible show wpAny _ _ (compareOp _ (Value.ref _) (Value.ref _)) _ _ _)); (fail_if_success (with_reducible show wpAny _ _ (compareOp _ (Value.bytes _ _) (Value.bytes _ _)) _ _ _)); (fail_if_success (with_reducible show wpAny _ _ (eval (Expr.ListComp _ _ _ _) _) _ _ _)); (first | (k_unfold; (try dsimp only)) | (k_end; wrow_close) | walk1 | (dsimp only; walk1) | (leave1; walk_say "STEP leave1"; try dsimp only))) | fail "no step"))
  (rename News _ _ _ _ => N9)
  (rename Fr _ _ _ _ => F9)
  refine' kmk_add_lit (zs := Y0 ++ Y1 ++ Y2) F9 N9 ⟨_, (N9 (D1, _) (by walk_at "lmem")).1, rfl, _, rfl⟩ ⟨_, (N9 (d2, _) (by walk_at "lmem")).1, rfl, _, rfl⟩ rfl ?_ ?sz
  case sz => (simp only [List.toList_toArray, List.length_append]; exact Nat.le_trans (by omega : _ ≤ 16) (by decide))
  intro D2 h2 F11 N11 _
  clear F9 N9
  (repeat' (first | ((fail_if_success (with_reducible show wpAny _ _ (execs _ _) _ _ _)); (fail_if_success (with_reducible show wpAny _ _ (call (Value.ref _) _ _) _ _ _)); (fail_if_success (with_reducible show wpAny _ _ (call (Value.type _) [Value.ref _] _) _ _ _)); (fail_if_success (with_reducible show wpAny _ _ (binaryOp _ (Value.ref _) (Value.ref _)) _ _ _)); (fail_if_success (with_reducible show wpAny _ _ (compareOp _ (Value.ref _) (Value.ref _)) _ _ _)); (fail_if_success (with_reducible show wpAny _ _ (compareOp _ (Value.bytes _ _) (Value.bytes _ _)) _ _ _)); (fail_if_success (with_reducible show wpAny _ _ (eval (Expr.ListComp _ _ _ _) _) _ _ _)); (first | (k_unfold; (try dsimp only)) | (k_end; wrow_close) | walk1 | (dsimp only; walk1) | (leave1; walk_say "STEP leave1"; try dsimp only))) | fail "no step"))
  (rename News _ _ _ _ => N9)
  (rename Fr _ _ _ _ => F9)
  refine' kmk_add_lit (zs := Y0 ++ Y1 ++ Y2 ++ Y3) F9 N9 ⟨_, (N9 (D2, _) (by walk_at "lmem")).1, rfl, _, rfl⟩ ⟨_, (N9 (d3, _) (by walk_at "lmem")).1, rfl, _, rfl⟩ rfl ?_ ?sz
  case sz => (simp only [List.toList_toArray, List.length_append]; exact Nat.le_trans (by omega : _ ≤ 16) (by decide))
  intro D3 h3 F12 N12 _
  clear F9 N9
  (repeat' (first | ((fail_if_success (with_reducible show wpAny _ _ (execs _ _) _ _ _)); (fail_if_success (with_reducible show wpAny _ _ (call (Value.ref _) _ _) _ _ _)); (fail_if_success (with_reducible show wpAny _ _ (call (Value.type _) [Value.ref _] _) _ _ _)); (fail_if_success (with_reducible show wpAny _ _ (binaryOp _ (Value.ref _) (Value.ref _)) _ _ _)); (fail_if_success (with_reducible show wpAny _ _ (compareOp _ (Value.ref _) (Value.ref _)) _ _ _)); (fail_if_success (with_reducible show wpAny _ _ (compareOp _ (Value.bytes _ _) (Value.bytes _ _)) _ _ _)); (fail_if_success (with_reducible show wpAny _ _ (eval (Expr.ListComp _ _ _ _) _) _ _ _)); (first | (k_unfold; (try dsimp only)) | (k_end; wrow_close) | walk1 | (dsimp only; walk1) | (leave1; walk_say "STEP leave1"; try dsimp only))) | fail "no step"))
  all_goals (first | (first | exact (0 : Nat) | exact Str.ofString "" | exact Value.none | exact ([] : List (Str × Addr))) | skip)
  (rename News _ _ _ _ => N9)
  (rename Fr _ _ _ _ => F9)
  have ht9 : ∀ p ∈ t, p ∈ (_ : List (Addr × Obj)) := (by intro p hp; walk_at "lmem" : ∀ p ∈ t, p ∈ (D3, listOf (Y0 ++ Y1 ++ Y2 ++ Y3).toArray 0) :: (D2, listOf (Y0 ++ Y1 ++ Y2).toArray 0) :: (D1, listOf (Y0 ++ Y1).toArray 0) :: (LA, listOf #[.ref d0, .ref d1, .ref d2, .ref d3] nA) :: (d0, listOf Y0.toArray k0) :: (d1, listOf Y1.toArray k1') :: (d2, listOf Y2.toArray k2) :: (d3, listOf Y3.toArray k3) :: (txd, dictOf (txtEs q1 v1) n1) :: (tx, instObj 111 txd) :: (shd, dictOf (numEs q2 v2) n2) :: (sh, instObj 111 shd) :: (s.heap.objs.size + 1 + 1 + 1, oc) :: (s.heap.objs.size + 1 + 1, ob) :: (s.heap.objs.size + 1, oa) :: t)
  have hYR : WL t (Y0 ++ Y1 ++ Y2 ++ Y3) (S0 ++ S1 ++ S2 ++ S3) := ((w0.append w1).append w2).append w3
  refine' lawinorder (ks := ks) (vs := Y0 ++ Y1 ++ Y2 ++ Y3) (rs := S0 ++ S1 ++ S2 ++ S3) ?kX ?kT ?kD ?kU ?h0 ?h1 ?h2 ?h3 ?_
  case kX => k_in
  case kT => walk_at "htop"
  case kD => walk_at "hroom"
  case kU => walk_at "hroom"
  case h0 => exact wanted_led N9 ht9 hW
  case h1 => exact ⟨_, (N9 _ (List.mem_cons_self ..)).1, rfl, _, rfl⟩
  case h2 => exact hYR.at N9 ht9
  case h3 => simp only [List.length_append]; omega
  intro h7 tk7 tt K ys7 n7 hx7 hK7 hKo hW7 hm7
  (try dsimp only at hx7 hK7 hKo hW7)
  have F10 := fr_ext F9 hx7
  have N10 := news_add F9 N9 hx7 hK7 hKo
  have hYs : WL t ys7.toList (insAll (spec ks) (S0 ++ S1 ++ S2 ++ S3)) := wl_of N9 ht9 hYR hW7 hm7
  clear F9 N9
  (repeat' (first | ((fail_if_success (with_reducible show wpAny _ _ (execs _ _) _ _ _)); (fail_if_success (with_reducible show wpAny _ _ (call (Value.ref _) _ _) _ _ _)); (fail_if_success (with_reducible show wpAny _ _ (call (Value.type _) [Value.ref _] _) _ _ _)); (fail_if_success (with_reducible show wpAny _ _ (binaryOp _ (Value.ref _) (Value.ref _)) _ _ _)); (fail_if_success (with_reducible show wpAny _ _ (compareOp _ (Value.ref _) (Value.ref _)) _ _ _)); (fail_if_success (with_reducible show wpAny _ _ (compareOp _ (Value.bytes _ _) (Value.bytes _ _)) _ _ _)); (fail_if_success (with_reducible show wpAny _ _ (eval (Expr.ListComp _ _ _ _) _) _ _ _)); (first | (k_unfold; (try dsimp only)) | (k_end; wrow_close) | walk1 | (dsimp only; walk1) | (leave1; walk_say "STEP leave1"; try dsimp only))) | fail "no step"))
  all_goals (first | (first | exact (0 : Nat) | exact Str.ofString "" | exact Value.none | exact ([] : List (Str × Addr))) | skip)
  (((try dsimp only); (repeat (k_unfold; (try dsimp only)))))
  (rename News _ _ _ _ => N9)
  (rename Fr _ _ _ _ => F9)
  have N8 : News s.heap s.heap.objs.size _ (led tx txd q1 v1 n1 sh shd q2 v2 n2 (s.heap.objs.size + 1 + 1 + 1) (s.heap.objs.size + 1 + 1) (s.heap.objs.size + 1) oc ob oa ((K, listOf ys7 n7) :: t)) := fun p hp => N9 p (by
    revert p
    dsimp only [led, base7, List.cons_append, List.nil_append]
    (((repeat (refine List.forall_mem_cons.mpr ⟨?_, ?_⟩; (focus walk_at "lmem"))); first | exact fun _ h => absurd h List.not_mem_nil | (intro p9 hp9; walk_at "lmem"))))
  refine lawB10 (txd := txd) (q1 := q1) (v1 := v1) (n1 := n1) (shd := shd) (q2 := q2) (v2 := v2) (n2 := n2) (ks := ks) (kn := kn) (GA := GA) (nG := nG) (vG := vG) (HA := HA) (nH := nH) (vH := vH) (UA := K) (nU := n7) (vU := ys7.toList) (S0 := S0) (S1 := S1) (S2 := S2) (S3 := S3) (t := (K, listOf ys7 n7) :: t) X T hd hu B ⟨hsm, F9, N8, hc, hb, ha, cons_okL ht, ?fW, ?fK, hsp, by (((try dsimp only); repeat (first | assumption | exact if_pos rfl | (refine (if_neg ?hx229).trans ?_; (case hx229 => decide))))), by (((try dsimp only); repeat (first | assumption | exact if_pos rfl | (refine (if_neg ?hx230).trans ?_; (case hx230 => decide)))))⟩ o0 o1 o2 o3 hR (by (((try dsimp only); repeat (first | assumption | exact if_pos rfl | (refine (if_neg ?hx231).trans ?_; (case hx231 => decide)))))) (List.mem_cons_of_mem _ hG) ?fG (by (((try dsimp only); repeat (first | assumption | exact if_pos rfl | (refine (if_neg ?hx232).trans ?_; (case hx232 => decide)))))) (List.mem_cons_of_mem _ hH) ?fH (by (((try dsimp only); repeat (first | assumption | exact if_pos rfl | (refine (if_neg ?hx233).trans ?_; (case hx233 => decide)))))) ?fU ?fV ?fq
  case fW => exact hW.mono fun p hp => List.mem_cons_of_mem _ hp
  case fK => exact hK.mono fun p hp => List.mem_cons_of_mem _ hp
  case fG => exact bG.mono fun p hp => List.mem_cons_of_mem _ hp
  case fH => exact bH.mono fun p hp => List.mem_cons_of_mem _ hp
  case fU => rw [Array.toArray_toList]; exact List.mem_cons_self ..
  case fV => exact hYs.mono fun p hp => List.mem_cons_of_mem _ hp
  case fq => (intro h9 tk9 hx9; exact hQ _ _ hx9)
end
-- Lf8
section
local macro_rules | `(tactic| k_all) => `(tactic| assumption)
set_option maxRecDepth 100000 in
set_option maxHeartbeats 8000000 in
theorem lawB8 : ∀ {w : World} {mean : ExcName → Option Value} {mg mb : Str → Option Value} {s : Shared} {dp un : Nat} {base : Heap} {outer : List Env} {gd : Option (List Code)} {Q : Flow → Shared → Prop}
   {h : Heap} {m : Str → Option Value} {tk : Nat} {sm : Int} {tsm : Tok} {tx txd : Addr} {q1 : HK} {v1 : Value} {n1 : Nat} {sh shd : Addr} {q2 : HK} {v2 : Value} {n2 : Nat} {oc ob oa : Obj} {W D : Addr} {ks kn : List KeyD} {t : List (Addr × Obj)} {LA : Addr} {nA : Nat} {vA : List Value} {S0 S1 S2 S3 : List Row} {GA : Addr} {nG : Nat} {vG : List Value},
   (Mine.hd.heap_39 w.params).In s.heap → Top Mine.hd.view_39 LL mean mg mb s.heap → dp + 40 < recursionLimit → un + 400 < cLine → Below ⟨none, dp, some outer, gd, un⟩ base outer s.heap →
   Com s h m sm tsm tx txd q1 v1 n1 sh shd q2 v2 n2 oc ob oa W D ks kn t →
   (m (Str.ofString "lists") = some (.ref LA)) →
   ((LA, listOf vA.toArray nA) ∈ t) →
   (LLs t vA [S0, S1, S2, S3]) →
   (Srt (spec ks) S0) →
   (Srt (spec ks) S1) →
   (Srt (spec ks) S2) →
   (Srt (spec ks) S3) →
   (2 ≤ S0.length + S1.length + S2.length + S3.length ∧ S0.length + S1.length + S2.length + S3.length ≤ 8) →
   (m (Str.ofString "given") = some (.ref GA)) →
   ((GA, listOf vG.toArray nG) ∈ t) →
   (BLs t vG [S0, S1, S2, S3]) →
   (∀ h' tk', Ext s.heap h' → Q (.ret (.bool true)) { s with heap := h', toks := tk' }) →
   wpAny (model Challenge.rw_pc0145_01.row.prog w) (Around.deeper ⟨none, dp, some outer, gd, un⟩ (lawEnv s.heap.objs.size)) (execs (lawBody.drop 8) (lawEnv s.heap.objs.size)) Q (fun _ _ => False) { s with heap := h, toks := tk } := by
  k_fill
  intro w mean mg mb s dp un base outer gd Q h m tk sm tsm tx txd q1 v1 n1 sh shd q2 v2 n2 oc ob oa W D ks kn t LA nA vA S0 S1 S2 S3 GA nG vG X T hd hu B hC mA hA lA o0 o1 o2 o3 hR mG hG bG hQ
  obtain ⟨hsm, F, N, hc, hb, ha, ht, hW, hK, hsp, mkk, mss⟩ := hC
  replace F := fr_fix F mG
  conv in (List.drop 8 lawBody) => whnf
  dsimp only [led, base7, List.cons_append, List.nil_append] at N
  (try k_fold)
  (first | (k_unfold; (try dsimp only)) | (k_end; wrow_close) | walk1 | (dsimp only; walk1) | (leave1; walk_say "STEP leave1"; try dsimp only))
  ((with_unfolding_all refine' Assign_J ?hhx235 ?hswx235 ?hclosx235 ?hcellx235 ?hkindx235 ?hnamesx235 ?hyx235 ?hpx235 ?_ ?hsx235; (case hhx235 => rfl); (case hswx235 => with_unfolding_all rfl); (case hclosx235 => with_unfolding_all rfl); (case hcellx235 => decide); (case hkindx235 => with_unfolding_all rfl); (case hnamesx235 => decide); (case hyx235 => rfl); (case hpx235 => rfl); (case hsx235 => intro _; with_unfolding_all rfl)))
  k_steps
  (rename News _ _ _ _ => N9)
  (rename Fr _ _ _ _ => F9)
  have N0 : News s.heap s.heap.objs.size h (led tx txd q1 v1 n1 sh shd q2 v2 n2 (s.heap.objs.size + 1 + 1 + 1) (s.heap.objs.size + 1 + 1) (s.heap.objs.size + 1) oc ob oa t) := N9
  clear N9
  with_unfolding_all refine' cja_intro vG (fun i ys nx => ∃ t', nx = led tx txd q1 v1 n1 sh shd q2 v2 n2 (s.heap.objs.size + 1 + 1 + 1) (s.heap.objs.size + 1 + 1) (s.heap.objs.size + 1) oc ob oa t' ∧ (∀ p ∈ t, p ∈ t') ∧ (∀ p ∈ t', notCell p.2 = true ∧ NI2 p.2) ∧ BLs t' ys ([S0, S1, S2, S3].take i)) F9 N0 ?src ?sz ?nc ⟨t, rfl, fun _ h => h, ht, .nil⟩ ?go ?turn ?fin
  case src =>
    rintro i ys nx ⟨t', rfl, h4, _, _⟩
    exact .inr ⟨_, List.mem_append_right _ (h4 _ hG), rfl, _, rfl⟩
  case sz => rw [bG.length]; exact (by decide : 4 ≤ sizeLine)
  case nc => exact base7_ni hc hb ha fun p hp => (ht p hp).2.ni
  case go =>
    intro s' I i v Q' _ _ _ hQ'
    exact go_name hQ'
  case turn =>
    rintro i v ys nx C Dc I oI oL h tk m₂ E' hv ⟨t', rfl, hs', hok', hL'⟩ hyl F2 N2 hoff
    obtain ⟨d, Y, n, R, hRi, rfl, hdm, hYR⟩ := (bG.mono hs').get hv
    have hni := base7_ni (tx := tx) (txd := txd) (q1 := q1) (v1 := v1) (n1 := n1) (sh := sh) (shd := shd) (q2 := q2) (v2 := v2) (n2 := n2) (c3 := s.heap.objs.size + 1 + 1 + 1) (c2 := s.heap.objs.size + 1 + 1) (c1 := s.heap.objs.size + 1) hc hb ha fun p hp => (hok' p hp).2.ni
    dsimp only [led, base7, List.cons_append, List.nil_append] at N2
    (repeat' (first | ((fail_if_success (with_reducible show wpAny _ _ (execs _ _) _ _ _)); (fail_if_success (with_reducible show wpAny _ _ (call (Value.ref _) _ _) _ _ _)); (fail_if_success (with_reducible show wpAny _ _ (call (Value.type _) [Value.ref _] _) _ _ _)); (fail_if_success (with_reducible show wpAny _ _ (binaryOp _ (Value.ref _) (Value.ref _)) _ _ _)); (fail_if_success (with_reducible show wpAny _ _ (compareOp _ (Value.ref _) (Value.ref _)) _ _ _)); (fail_if_success (with_reducible show wpAny _ _ (compareOp _ (Value.bytes _ _) (Value.bytes _ _)) _ _ _)); (fail_if_success (with_reducible show wpAny _ _ (eval (Expr.ListComp _ _ _ _) _) _ _ _)); (first | (k_unfold; (try dsimp only)) | (k_end; wrow_close) | walk1 | (dsimp only; walk1) | (leave1; walk_say "STEP leave1"; try dsimp only))) | fail "no step"))
    all_goals (first | (first | exact (0 : Nat) | exact Str.ofString "" | exact Value.none | exact ([] : List (Str × Addr))) | skip)
    (rename News _ _ _ _ => N9)
    (rename Fr _ _ _ _ => F9)
    have hRl : R.length ≤ 8 := by
      rcases i with _ | _ | _ | _ | i <;> (first | (cases hRi; omega) | (simp at hRi))
    have ht9 : ∀ p ∈ t', p ∈ (_ : List (Addr × Obj)) := (by intro p hp; walk_at "lmem" : ∀ p ∈ t', p ∈ (txd, dictOf (txtEs q1 v1) n1) :: (tx, instObj 111 txd) :: (shd, dictOf (numEs q2 v2) n2) :: (sh, instObj 111 shd) :: (s.heap.objs.size + 1 + 1 + 1, oc) :: (s.heap.objs.size + 1 + 1, ob) :: (s.heap.objs.size + 1, oa) :: (t' ++ [(I, oI), (Dc, LCg.lst ys), ((lawEnv s.heap.objs.size).locals, oL)]))
    refine' list_copyK F9 N9 ⟨_, (N9 _ (ht9 _ hdm)).1, rfl, _, rfl⟩ ?_ ?sz
    case sz => (rw [List.size_toArray, hYR.length]; exact Nat.le_trans hRl (by decide))
    intro D7 c7 h7 F10 N10 l1
    refine' jp_add (K := D7) (oK := listOf Y.toArray c7) F10 N10 ?hn ?hB (List.mem_cons_self ..) hoff hni lst_ok.2.ni ?hKD ?hKL ⟨(D7, listOf Y.toArray c7) :: t', rfl, ?a1, cons_okL hok', ?a2⟩
    case hn => exact fun p hp => List.mem_cons_of_mem _ (by revert p; (((repeat (refine List.forall_mem_cons.mpr ⟨?_, ?_⟩; (focus walk_at "lmem"))); first | exact fun _ h => absurd h List.not_mem_nil | (intro p9 hp9; walk_at "lmem"))))
    case hB => (dsimp only [base7, List.cons_append, List.nil_append]; (((repeat (refine List.forall_mem_cons.mpr ⟨?_, ?_⟩; (focus walk_at "lmem"))); first | exact fun _ h => absurd h List.not_mem_nil | (intro p9 hp9; walk_at "lmem"))))
    case hKD => exact Nat.ne_of_gt (l1 (Dc, LCg.lst ys) (by walk_at "lmem"))
    case hKL => exact Nat.ne_of_gt (l1 ((lawEnv s.heap.objs.size).locals, oL) (by walk_at "lmem"))
    case a1 => exact fun p hp => List.mem_cons_of_mem _ (hs' p hp)
    case a2 =>
      rw [take_snoc hRi]
      exact (hL'.mono fun p hp => List.mem_cons_of_mem _ hp).append (.cons (Y := Y) (n := c7) (List.mem_cons_self ..) hYR .nil)
  case fin =>
    rintro D7 ys nx h' tk ⟨t', rfl, hs', hok', hL'⟩ hyl hDn F3 N3
    (try dsimp only)
    (((try dsimp only); (repeat (k_unfold; (try dsimp only)))))
    rw [bG.length] at hL'
    replace hL' : BLs t' ys [S0, S1, S2, S3] := hL'
    refine lawB9 (txd := txd) (q1 := q1) (v1 := v1) (n1 := n1) (shd := shd) (q2 := q2) (v2 := v2) (n2 := n2) (ks := ks) (kn := kn) (LA := LA) (nA := nA) (vA := vA) (GA := GA) (nG := nG) (vG := vG) (HA := D7) (vH := ys) (S0 := S0) (S1 := S1) (S2 := S2) (S3 := S3) (t := (D7, LCg.lst ys) :: t') X T hd hu B ⟨hsm, F3, led_cons N3, hc, hb, ha, cons_okL hok', ?fW, ?fK, hsp, by (((try dsimp only); repeat (first | assumption | exact if_pos rfl | (refine (if_neg ?hx242).trans ?_; (case hx242 => decide))))), by (((try dsimp only); repeat (first | assumption | exact if_pos rfl | (refine (if_neg ?hx243).trans ?_; (case hx243 => decide)))))⟩ (by (((try dsimp only); repeat (first | assumption | exact if_pos rfl | (refine (if_neg ?hx244).trans ?_; (case hx244 => decide)))))) ?fA ?fL o0 o1 o2 o3 hR (by (((try dsimp only); repeat (first | assumption | exact if_pos rfl | (refine (if_neg ?hx245).trans ?_; (case hx245 => decide)))))) ?fG ?fB (if_pos rfl) (List.mem_cons_self ..) ?fH ?fq
    case fW => exact hW.mono fun p hp => List.mem_cons_of_mem _ (hs' p hp)
    case fK => exact hK.mono fun p hp => List.mem_cons_of_mem _ (hs' p hp)
    case fA => exact List.mem_cons_of_mem _ (hs' _ hA)
    case fL => exact lA.mono fun p hp => List.mem_cons_of_mem _ (hs' p hp)
    case fG => exact List.mem_cons_of_mem _ (hs' _ hG)
    case fB => exact bG.mono fun p hp => List.mem_cons_of_mem _ (hs' p hp)
    case fH => exact hL'.mono fun p hp => List.mem_cons_of_mem _ hp
    case fq => (intro h9 tk9 hx9; exact hQ _ _ hx9)
end
-- Lf7
section
local macro_rules | `(tactic| k_all) => `(tactic| assumption)
set_option maxRecDepth 100000 in
set_option maxHeartbeats 8000000 in
theorem lawB7 : ∀ {w : World} {mean : ExcName → Option Value} {mg mb : Str → Option Value} {s : Shared} {dp un : Nat} {base : Heap} {outer : List Env} {gd : Option (List Code)} {Q : Flow → Shared → Prop}
   {h : Heap} {m : Str → Option Value} {tk : Nat} {sm : Int} {tsm : Tok} {tx txd : Addr} {q1 : HK} {v1 : Value} {n1 : Nat} {sh shd : Addr} {q2 : HK} {v2 : Value} {n2 : Nat} {oc ob oa : Obj} {W D : Addr} {ks kn : List KeyD} {t : List (Addr × Obj)} {LA : Addr} {nA : Nat} {vA : List Value} {S0 S1 S2 S3 : List Row},
   (Mine.hd.heap_39 w.params).In s.heap → Top Mine.hd.view_39 LL mean mg mb s.heap → dp + 40 < recursionLimit → un + 400 < cLine → Below ⟨none, dp, some outer, gd, un⟩ base outer s.heap →
   Com s h m sm tsm tx txd q1 v1 n1 sh shd q2 v2 n2 oc ob oa W D ks kn t →
   (m (Str.ofString "lists") = some (.ref LA)) →
   ((LA, listOf vA.toArray nA) ∈ t) →
   (LLs t vA [S0, S1, S2, S3]) →
   (Srt (spec ks) S0) →
   (Srt (spec ks) S1) →
   (Srt (spec ks) S2) →
   (Srt (spec ks) S3) →
   (2 ≤ S0.length + S1.length + S2.length + S3.length ∧ S0.length + S1.length + S2.length + S3.length ≤ 8) →
   (∀ h' tk', Ext s.heap h' → Q (.ret (.bool true)) { s with heap := h', toks := tk' }) →
   wpAny (model Challenge.rw_pc0145_01.row.prog w) (Around.deeper ⟨none, dp, some outer, gd, un⟩ (lawEnv s.heap.objs.size)) (execs (lawBody.drop 7) (lawEnv s.heap.objs.size)) Q (fun _ _ => False) { s with heap := h, toks := tk } := by
  k_fill
  intro w mean mg mb s dp un base outer gd Q h m tk sm tsm tx txd q1 v1 n1 sh shd q2 v2 n2 oc ob oa W D ks kn t LA nA vA S0 S1 S2 S3 X T hd hu B hC mA hA lA o0 o1 o2 o3 hR hQ
  obtain ⟨hsm, F, N, hc, hb, ha, ht, hW, hK, hsp, mkk, mss⟩ := hC
  replace F := fr_fix F mA
  conv in (List.drop 7 lawBody) => whnf
  dsimp only [led, base7, List.cons_append, List.nil_append] at N
  (try k_fold)
  (first | (k_unfold; (try dsimp only)) | (k_end; wrow_close) | walk1 | (dsimp only; walk1) | (leave1; walk_say "STEP leave1"; try dsimp only))
  ((with_unfolding_all refine' Assign_J ?hhx247 ?hswx247 ?hclosx247 ?hcellx247 ?hkindx247 ?hnamesx247 ?hyx247 ?hpx247 ?_ ?hsx247; (case hhx247 => rfl); (case hswx247 => with_unfolding_all rfl); (case hclosx247 => with_unfolding_all rfl); (case hcellx247 => decide); (case hkindx247 => with_unfolding_all rfl); (case hnamesx247 => decide); (case hyx247 => rfl); (case hpx247 => rfl); (case hsx247 => intro _; with_unfolding_all rfl)))
  k_steps
  (rename News _ _ _ _ => N9)
  (rename Fr _ _ _ _ => F9)
  have N0 : News s.heap s.heap.objs.size h (led tx txd q1 v1 n1 sh shd q2 v2 n2 (s.heap.objs.size + 1 + 1 + 1) (s.heap.objs.size + 1 + 1) (s.heap.objs.size + 1) oc ob oa t) := N9
  clear N9
  with_unfolding_all refine' cja_intro vA (fun i ys nx => ∃ t', nx = led tx txd q1 v1 n1 sh shd q2 v2 n2 (s.heap.objs.size + 1 + 1 + 1) (s.heap.objs.size + 1 + 1) (s.heap.objs.size + 1) oc ob oa t' ∧ (∀ p ∈ t, p ∈ t') ∧ (∀ p ∈ t', notCell p.2 = true ∧ NI2 p.2) ∧ BLs t' ys ([S0, S1, S2, S3].take i)) F9 N0 ?src ?sz ?nc ⟨t, rfl, fun _ h => h, ht, .nil⟩ ?go ?turn ?fin
  case src =>
    rintro i ys nx ⟨t', rfl, h4, _, _⟩
    exact .inr ⟨_, List.mem_append_right _ (h4 _ hA), rfl, _, rfl⟩
  case sz => rw [lA.length]; exact (by decide : 4 ≤ sizeLine)
  case nc => exact base7_ni hc hb ha fun p hp => (ht p hp).2.ni
  case go =>
    intro s' I i v Q' _ _ _ hQ'
    exact go_name hQ'
  case turn =>
    rintro i v ys nx C Dc I oI oL h tk m₂ E' hv ⟨t', rfl, hs', hok', hL'⟩ hyl F2 N2 hoff
    obtain ⟨d, Y, n, R, hRi, rfl, hdm, hYR⟩ := (lA.mono hs').get hv
    have hni := base7_ni (tx := tx) (txd := txd) (q1 := q1) (v1 := v1) (n1 := n1) (sh := sh) (shd := shd) (q2 := q2) (v2 := v2) (n2 := n2) (c3 := s.heap.objs.size + 1 + 1 + 1) (c2 := s.heap.objs.size + 1 + 1) (c1 := s.heap.objs.size + 1) hc hb ha fun p hp => (hok' p hp).2.ni
    dsimp only [led, base7, List.cons_append, List.nil_append] at N2
    (repeat' (first | (fail_if_success (with_reducible show wpAny _ _ (eval (Expr.ListComp _ _ _ _) _) _ _ _)); (first | (k_unfold; (try dsimp only)) | (k_end; wrow_close) | walk1 | (dsimp only; walk1) | (leave1; walk_say "STEP leave1"; try dsimp only)) | fail "no step"))
    ((with_unfolding_all refine' comp_F ?hhx249 ?hclosx249 ?hcellx249 ?hkindx249 ?hnamesx249 ?hxx249 ?_ ?hsx249; (case hhx249 => rfl); (case hclosx249 => with_unfolding_all rfl); (case hcellx249 => decide); (case hkindx249 => with_unfolding_all rfl); (case hnamesx249 => decide); (case hxx249 => with_unfolding_all rfl); (case hsx249 => intro _; with_unfolding_all rfl)))
    k_steps
    all_goals (first | (first | exact (0 : Nat) | exact Str.ofString "" | exact Value.none | exact ([] : List (Str × Addr))) | skip)
    (rename News _ _ _ _ => N9)
    (rename Fr _ _ _ _ => F9)
    have hRl : R.length ≤ 8 := by
      rcases i with _ | _ | _ | _ | i <;> (first | (cases hRi; omega) | (simp at hRi))
    have ht9 : ∀ p ∈ t', p ∈ (_ : List (Addr × Obj)) := (by intro p hp; walk_at "lmem" : ∀ p ∈ t', p ∈ (txd, dictOf (txtEs q1 v1) n1) :: (tx, instObj 111 txd) :: (shd, dictOf (numEs q2 v2) n2) :: (sh, instObj 111 shd) :: (s.heap.objs.size + 1 + 1 + 1, oc) :: (s.heap.objs.size + 1 + 1, ob) :: (s.heap.objs.size + 1, oa) :: (t' ++ [(I, oI), (Dc, LCg.lst ys), ((lawEnv s.heap.objs.size).locals, oL)]))
    with_unfolding_all refine' cfp_intro Y (fun _ => true) (OctOf t') ?g1 ?g2 F9 N9 ?g3 ?g4 ?g5
    case g1 => exact ⟨_, (N9 _ (ht9 _ hdm)).1, rfl, _, rfl⟩
    case g2 => rw [hYR.length]; exact Nat.le_trans hRl (by decide)
    case g3 =>
      intro C v s₂ m₂ E' hv' F2 N2 hE2
      k_steps
      all_goals (try (((try dsimp only); (repeat (k_unfold; (try dsimp only))))))
      all_goals (first | (exact ⟨_, _, rfl, fun b o e => by repeat (first | exact e | refine Heap.get?_push_of_some _ ?_ | assumption | (rename Ext _ _ => hx'; first | exact hx' _ _ e | (refine hx' _ _ ?_; clear hx') | clear hx'))⟩) | exact ⟨rfl, by (exact ⟨_, _, rfl, fun b o e => by repeat (first | exact e | refine Heap.get?_push_of_some _ ?_ | assumption | (rename Ext _ _ => hx'; first | exact hx' _ _ e | (refine hx' _ _ ?_; clear hx') | clear hx'))⟩)⟩ | (first | exact (0 : Nat) | exact Str.ofString "" | exact Value.none | exact ([] : List (Str × Addr))))
    case g4 =>
      intro C v s₂ m₂ E' hv' hp' F2 N2 hE2
      obtain ⟨r, hr⟩ := hYR.mem hv'
      obtain ⟨b, t1, t2, t3, n9, rfl, hm⟩ := id hr
      have N3 := news_front N2 (ht9 _ hm)
      clear N2
      dsimp only [tupO] at N3
      have hoc : ∀ y, (∃ u, y = .bytes r.oct u) → OctOf t' (.ref b) y := fun y e => oct_of N3 (fun p hp => List.mem_cons_of_mem _ (ht9 p hp)) hr e
      have hnum0 : NumAt s₂.heap sh shd q2 v2 n2 := InstAt.of_news N3 (by walk_at "lmem") (by walk_at "lmem")
      have hw4 := dec_four r.ok
      (repeat' (first | ((fail_if_success (with_reducible show wpAny _ _ (execs _ _) _ _ _)); (fail_if_success (with_reducible show wpAny _ _ (call (Value.ref _) _ _) _ _ _)); (fail_if_success (with_reducible show wpAny _ _ (call (Value.type _) [Value.ref _] _) _ _ _)); (fail_if_success (with_reducible show wpAny _ _ (binaryOp _ (Value.ref _) (Value.ref _)) _ _ _)); (fail_if_success (with_reducible show wpAny _ _ (compareOp _ (Value.ref _) (Value.ref _)) _ _ _)); (fail_if_success (with_reducible show wpAny _ _ (compareOp _ (Value.bytes _ _) (Value.bytes _ _)) _ _ _)); (fail_if_success (with_reducible show wpAny _ _ (eval (Expr.ListComp _ _ _ _) _) _ _ _)); (first | (k_unfold; (try dsimp only)) | (k_end; wrow_close) | walk1 | (dsimp only; walk1) | (leave1; walk_say "STEP leave1"; try dsimp only))) | fail "no step"))
      all_goals (first | (first | exact (0 : Nat) | exact Str.ofString "" | exact Value.none | exact ([] : List (Str × Addr))) | skip)
      (rename News _ _ _ _ => N8)
      (rename Fr _ _ _ _ => F8)
      refine' octetsfor (sh := sh) (d := shd) (q := q2) (vp := v2) (n := n2) (u := r.w) ?kX ?kT ?kD ?kU ?h0 ?h1 ?_
      case kX => k_in
      case kT => walk_at "htop"
      case kD => walk_at "hroom"
      case kU => walk_at "hroom"
      case h0 => walk_at "hnum"
      case h1 => exact hw4
      intro h8 tk8 tt a8 b8 hx8 hdec
      (try dsimp only at hx8)
      have F10 := fr_ext F8 hx8
      have N10 := news_ext N8 hx8
      clear F8 N8
      repeat' (first | (fail_if_success (with_reducible show wpAny _ _ (newList _) _ _ _)); (first | (k_unfold; (try dsimp only)) | (k_end; wrow_close) | walk1 | (dsimp only; walk1) | (leave1; walk_say "STEP leave1"; try dsimp only)) | fail "no")
      all_goals (first | (first | exact (0 : Nat) | exact Str.ofString "" | exact Value.none | exact ([] : List (Str × Addr))) | skip)
      (rename News _ _ _ _ => N8)
      (rename Fr _ _ _ _ => F8)
      refine mk_list F8 N8 (by size_fits) ?_
      intro h9 D9 hx9 F11 N11
      (try dsimp only at hx9)
      clear F8 N8
      (repeat' (first | ((fail_if_success (with_reducible show wpAny _ _ (execs _ _) _ _ _)); (fail_if_success (with_reducible show wpAny _ _ (call (Value.ref _) _ _) _ _ _)); (fail_if_success (with_reducible show wpAny _ _ (call (Value.type _) [Value.ref _] _) _ _ _)); (fail_if_success (with_reducible show wpAny _ _ (binaryOp _ (Value.ref _) (Value.ref _)) _ _ _)); (fail_if_success (with_reducible show wpAny _ _ (compareOp _ (Value.ref _) (Value.ref _)) _ _ _)); (fail_if_success (with_reducible show wpAny _ _ (compareOp _ (Value.bytes _ _) (Value.bytes _ _)) _ _ _)); (fail_if_success (with_reducible show wpAny _ _ (eval (Expr.ListComp _ _ _ _) _) _ _ _)); (first | (k_unfold; (try dsimp only)) | (k_end; wrow_close) | walk1 | (dsimp only; walk1) | (leave1; walk_say "STEP leave1"; try dsimp only))) | fail "no step"))
      all_goals (first | (first | exact (0 : Nat) | exact Str.ofString "" | exact Value.none | exact ([] : List (Str × Addr))) | skip)
      (rename News _ _ _ _ => N8)
      (rename Fr _ _ _ _ => F8)
      refine call_bytes_ints (ns := [(r.n.toNat : Int)]) ⟨_, (N8 _ (List.mem_cons_self ..)).1, rfl, _, rfl⟩ (.cons _ _ .nil) (by have := r.n.toNat_lt; simp only [List.mem_singleton]; rintro _ rfl; omega) (by exact (by decide : 1 ≤ sizeLine)) rfl ?_
      intro h11 t11 k11 hk11
      rw [byteArr_one]
      (try dsimp only at hk11)
      have F12 := fr_ext F8 hk11
      have N12 := news_ext N8 hk11
      clear F8 N8
      repeat' (first | (fail_if_success (with_reducible show _ ∧ _)); (first | (k_unfold; (try dsimp only)) | (k_end; wrow_close) | walk1 | (dsimp only; walk1) | (leave1; walk_say "STEP leave1"; try dsimp only)) | fail "no")
      all_goals (first | (first | exact (0 : Nat) | exact Str.ofString "" | exact Value.none | exact ([] : List (Str × Addr))) | skip)
      (try (((try dsimp only); (repeat (k_unfold; (try dsimp only))))))
      refine ⟨hoc _ ?_, _, _, rfl, fun b o e => hk11 _ _ (hx9 _ _ (hx8 _ _ e))⟩
      refine ⟨_, bytes_eq ?_⟩
      obtain ⟨e5, e6⟩ := dec_inj hdec r.ok
      subst e5 e6
      rfl
    case g5 =>
      intro D7 ys7 n7 h7 tk7 hx7 hKn F10 N10 hP
      have hrows := octs_rows hYR hP
      refine' jl_add (h := _) F10 N10 N9 ?hn0 hKn ?hn ?hB (List.mem_cons_self ..) hoff hni ⟨(D7, listOf ys7.toArray n7) :: t', rfl, ?a1, cons_okL hok', ?a2⟩
      case hn0 => (((repeat (refine List.forall_mem_cons.mpr ⟨?_, ?_⟩; (focus walk_at "lmem"))); first | exact fun _ h => absurd h List.not_mem_nil | (intro p9 hp9; walk_at "lmem")))
      case hn => exact fun p hp => List.mem_cons_of_mem _ (by revert p; (((repeat (refine List.forall_mem_cons.mpr ⟨?_, ?_⟩; (focus walk_at "lmem"))); first | exact fun _ h => absurd h List.not_mem_nil | (intro p9 hp9; walk_at "lmem"))))
      case hB => (dsimp only [base7, List.cons_append, List.nil_append]; (((repeat (refine List.forall_mem_cons.mpr ⟨?_, ?_⟩; (focus walk_at "lmem"))); first | exact fun _ h => absurd h List.not_mem_nil | (intro p9 hp9; walk_at "lmem"))))
      case a1 => exact fun p hp => List.mem_cons_of_mem _ (hs' p hp)
      case a2 =>
        rw [take_snoc hRi]
        exact (hL'.mono fun p hp => List.mem_cons_of_mem _ hp).append (.cons (Y := ys7) (n := n7) (List.mem_cons_self ..) hrows .nil)
  case fin =>
    rintro D7 ys nx h' tk ⟨t', rfl, hs', hok', hL'⟩ hyl hDn F3 N3
    (try dsimp only)
    (((try dsimp only); (repeat (k_unfold; (try dsimp only)))))
    rw [lA.length] at hL'
    replace hL' : BLs t' ys [S0, S1, S2, S3] := hL'
    refine lawB8 (txd := txd) (q1 := q1) (v1 := v1) (n1 := n1) (shd := shd) (q2 := q2) (v2 := v2) (n2 := n2) (ks := ks) (kn := kn) (LA := LA) (nA := nA) (vA := vA) (GA := D7) (nG := ys.length) (vG := ys) (S0 := S0) (S1 := S1) (S2 := S2) (S3 := S3) (t := (D7, LCg.lst ys) :: t') X T hd hu B ⟨hsm, F3, led_cons N3, hc, hb, ha, cons_okL hok', ?fW, ?fK, hsp, by (((try dsimp only); repeat (first | assumption | exact if_pos rfl | (refine (if_neg ?hx270).trans ?_; (case hx270 => decide))))), by (((try dsimp only); repeat (first | assumption | exact if_pos rfl | (refine (if_neg ?hx271).trans ?_; (case hx271 => decide)))))⟩ (by (((try dsimp only); repeat (first | assumption | exact if_pos rfl | (refine (if_neg ?hx272).trans ?_; (case hx272 => decide)))))) ?fA ?fL o0 o1 o2 o3 hR (by (((try dsimp only); repeat (first | assumption | exact if_pos rfl | (refine (if_neg ?hx273).trans ?_; (case hx273 => decide)))))) (List.mem_cons_self ..) ?fB ?fq
    case fW => exact hW.mono fun p hp => List.mem_cons_of_mem _ (hs' p hp)
    case fK => exact hK.mono fun p hp => List.mem_cons_of_mem _ (hs' p hp)
    case fA => exact List.mem_cons_of_mem _ (hs' _ hA)
    case fL => exact lA.mono fun p hp => List.mem_cons_of_mem _ (hs' p hp)
    case fB => exact hL'.mono fun p hp => List.mem_cons_of_mem _ hp
    case fq => (intro h9 tk9 hx9; exact hQ _ _ hx9)
end
-- Lf6
section
local macro_rules | `(tactic| k_all) => `(tactic| assumption)
set_option maxRecDepth 100000 in
set_option maxHeartbeats 8000000 in
theorem lawB6 : ∀ {w : World} {mean : ExcName → Option Value} {mg mb : Str → Option Value} {s : Shared} {dp un : Nat} {base : Heap} {outer : List Env} {gd : Option (List Code)} {Q : Flow → Shared → Prop} {sc : Addr} {vs : List Value} {ns : List Int}
   {h : Heap} {tk : Nat} {sm : Int} {tsm : Tok} {tx txd : Addr} {q1 : HK} {v1 : Value} {n1 : Nat} {sh shd : Addr} {q2 : HK} {v2 : Value} {n2 : Nat} {oc ob oa : Obj} {W D : Addr} {ks kn : List KeyD} {u : Str → Option Value} {SL LA a0 a1 a2 a3 : Addr} {items X0 X1 X2 X3 : List Value} {k0 k1 k2 k3 : Nat} {R0 R1 R2 R3 : List Row} {t : List (Addr × Obj)},
   (Mine.hd.heap_39 w.params).In s.heap → Top Mine.hd.view_39 LL mean mg mb s.heap → dp + 40 < recursionLimit → un + 400 < cLine → Below ⟨none, dp, some outer, gd, un⟩ base outer s.heap →
   s.heap.IsList sc vs.toArray → IntsAre vs ns → ns.length ≤ 63 →
   LS6 s h u sc sm tsm tx txd q1 v1 n1 sh shd q2 v2 n2 oc ob oa W D ks kn SL LA a0 a1 a2 a3 items X0 X1 X2 X3 k0 k1 k2 k3 R0 R1 R2 R3 t →
   (∀ h' tk', Ext s.heap h' → Q (.ret (.bool true)) { s with heap := h', toks := tk' }) →
   wpAny (model Challenge.rw_pc0145_01.row.prog w) (Around.deeper ⟨none, dp, some outer, gd, un⟩ (lawEnv s.heap.objs.size)) (execs (lawBody.drop 6) (lawEnv s.heap.objs.size)) Q (fun _ _ => False) { s with heap := h, toks := tk } := by
  k_fill
  intro w mean mg mb s dp un base outer gd Q sc vs ns h tk sm tsm tx txd q1 v1 n1 sh shd q2 v2 n2 oc ob oa W D ks kn u SL LA a0 a1 a2 a3 items X0 X1 X2 X3 k0 k1 k2 k3 R0 R1 R2 R3 t X T hd hu B hl hi hn S6 hQ
  obtain ⟨hsm, F, N, hc, hb, ha, ht, hW, hK, hsp, w0, w1, w2, w3, hR⟩ := S6
  conv in (List.drop 6 lawBody) => whnf
  dsimp only [led6, base7, List.cons_append, List.nil_append] at N
  (try k_fold)
  (first | (k_unfold; (try dsimp only)) | (k_end; wrow_close) | walk1 | (dsimp only; walk1) | (leave1; walk_say "STEP leave1"; try dsimp only))
  ((with_unfolding_all refine' Assign_J ?hhx275 ?hswx275 ?hclosx275 ?hcellx275 ?hkindx275 ?hnamesx275 ?hyx275 ?hpx275 ?_ ?hsx275; (case hhx275 => rfl); (case hswx275 => with_unfolding_all rfl); (case hclosx275 => with_unfolding_all rfl); (case hcellx275 => decide); (case hkindx275 => with_unfolding_all rfl); (case hnamesx275 => decide); (case hyx275 => rfl); (case hpx275 => rfl); (case hsx275 => intro _; with_unfolding_all rfl)))
  k_steps
  (rename News _ _ _ _ => N9)
  (rename Fr _ _ _ _ => F9)
  have N0 : News s.heap s.heap.objs.size h (led tx txd q1 v1 n1 sh shd q2 v2 n2 (s.heap.objs.size + 1 + 1 + 1) (s.heap.objs.size + 1 + 1) (s.heap.objs.size + 1) oc ob oa ((LA, listOf #[.ref a0, .ref a1, .ref a2, .ref a3] 0) :: (a0, listOf X0.toArray k0) :: (a1, listOf X1.toArray k1) :: (a2, listOf X2.toArray k2) :: (a3, listOf X3.toArray k3) :: t)) := by
    refine fun p hp => N9 p ?_
    revert p
    dsimp only [led, base7, List.cons_append, List.nil_append]
    (((repeat (refine List.forall_mem_cons.mpr ⟨?_, ?_⟩; (focus walk_at "lmem"))); first | exact fun _ h => absurd h List.not_mem_nil | (intro p9 hp9; walk_at "lmem")))
  generalize ht0 : (LA, listOf #[.ref a0, .ref a1, .ref a2, .ref a3] 0) :: (a0, listOf X0.toArray k0) :: (a1, listOf X1.toArray k1) :: (a2, listOf X2.toArray k2) :: (a3, listOf X3.toArray k3) :: t = t0 at N0
  have hsub : ∀ p ∈ t, p ∈ t0 := fun p hp => by rw [← ht0]; exact List.mem_cons_of_mem _ (List.mem_cons_of_mem _ (List.mem_cons_of_mem _ (List.mem_cons_of_mem _ (List.mem_cons_of_mem _ hp))))
  have hok0 : ∀ p ∈ t0, notCell p.2 = true ∧ NI2 p.2 := by rw [← ht0]; exact cons_okL (cons_okL (cons_okL (cons_okL (cons_okL ht))))
  have hLA : (LA, listOf #[.ref a0, .ref a1, .ref a2, .ref a3] 0) ∈ t0 := by rw [← ht0]; exact List.mem_cons_self ..
  have hLs : LLs t0 [.ref a0, .ref a1, .ref a2, .ref a3] [R0, R1, R2, R3] := .cons (by rw [← ht0]; walk_at "lmem") (w0.mono hsub) (.cons (by rw [← ht0]; walk_at "lmem") (w1.mono hsub) (.cons (by rw [← ht0]; walk_at "lmem") (w2.mono hsub) (.cons (by rw [← ht0]; walk_at "lmem") (w3.mono hsub) .nil)))
  clear N9 ht0
  with_unfolding_all refine' cja_intro [.ref a0, .ref a1, .ref a2, .ref a3] (fun i ys nx => ∃ t', nx = led tx txd q1 v1 n1 sh shd q2 v2 n2 (s.heap.objs.size + 1 + 1 + 1) (s.heap.objs.size + 1 + 1) (s.heap.objs.size + 1) oc ob oa t' ∧ (∀ p ∈ t0, p ∈ t') ∧ (∀ p ∈ t', notCell p.2 = true ∧ NI2 p.2) ∧ LLs t' ys (([R0, R1, R2, R3].take i).map (insAll (spec ks)))) F9 N0 ?src ?sz ?nc ⟨t0, rfl, fun _ h => h, hok0, .nil⟩ ?go ?turn ?fin
  case src =>
    rintro i ys nx ⟨t', rfl, h4, _, _⟩
    exact .inr ⟨_, List.mem_append_right _ (h4 _ hLA), rfl, _, rfl⟩
  case sz => exact (by decide : 4 ≤ sizeLine)
  case nc => exact base7_ni hc hb ha fun p hp => (hok0 p hp).2.ni
  case go =>
    intro s' I i v Q' _ _ _ hQ'
    exact go_name hQ'
  case turn =>
    rintro i v ys nx C Dc I oI oL h tk m₂ E' hv ⟨t', rfl, hs', hok', hL'⟩ hyl F2 N2 hoff
    obtain ⟨d, Y, n, R, hRi, rfl, hdm, hYR⟩ := (hLs.mono hs').get hv
    have hni := base7_ni (tx := tx) (txd := txd) (q1 := q1) (v1 := v1) (n1 := n1) (sh := sh) (shd := shd) (q2 := q2) (v2 := v2) (n2 := n2) (c3 := s.heap.objs.size + 1 + 1 + 1) (c2 := s.heap.objs.size + 1 + 1) (c1 := s.heap.objs.size + 1) hc hb ha fun p hp => (hok' p hp).2.ni
    dsimp only [led, base7, List.cons_append, List.nil_append] at N2
    repeat' (first | (fail_if_success (with_reducible show wpAny _ _ (call (Value.ref 549) _ _) _ _ _)); (first | (k_unfold; (try dsimp only)) | (k_end; wrow_close) | walk1 | (dsimp only; walk1) | (leave1; walk_say "STEP leave1"; try dsimp only)) | fail "no")
    all_goals (first | (first | exact (0 : Nat) | exact Str.ofString "" | exact Value.none | exact ([] : List (Str × Addr))) | skip)
    (rename News _ _ _ _ => N9)
    (rename Fr _ _ _ _ => F9)
    have hRl : R.length ≤ 8 := by
      rcases i with _ | _ | _ | _ | i <;> (first | (cases hRi; omega) | (simp at hRi))
    have ht9 : ∀ p ∈ t', p ∈ (_ : List (Addr × Obj)) := (by intro p hp; walk_at "lmem" : ∀ p ∈ t', p ∈ (txd, dictOf (txtEs q1 v1) n1) :: (tx, instObj 111 txd) :: (shd, dictOf (numEs q2 v2) n2) :: (sh, instObj 111 shd) :: (s.heap.objs.size + 1 + 1 + 1, oc) :: (s.heap.objs.size + 1 + 1, ob) :: (s.heap.objs.size + 1, oa) :: (t' ++ [(I, oI), (Dc, LCg.lst ys), ((lawEnv s.heap.objs.size).locals, oL)]))
    refine' lawinorder (ks := ks) (vs := Y) (rs := R) ?kX ?kT ?kD ?kU ?h0 ?h1 ?h2 ?h3 ?_
    case kX => k_in
    case kT => walk_at "htop"
    case kD => walk_at "hroom"
    case kU => walk_at "hroom"
    case h0 => exact wanted_led N9 (fun p hp => ht9 p (hs' p (hsub p hp))) hW
    case h1 => exact ⟨_, (N9 _ (ht9 _ hdm)).1, rfl, _, rfl⟩
    case h2 => exact hYR.at N9 ht9
    case h3 => omega
    intro h7 tk7 tt K ys7 n7 hx7 hK7 hKo hW7 hm7
    (try dsimp only at hx7 hK7 hKo hW7)
    have F10 := fr_ext F9 hx7
    have N10 := news_add F9 N9 hx7 hK7 hKo
    have hYs : WL t' ys7.toList (insAll (spec ks) R) := wl_of N9 ht9 hYR hW7 hm7
    refine' jl_add (h := _) F10 N10 N9 ?hn0 hK7 ?hn ?hB (List.mem_cons_self ..) hoff hni ⟨(K, listOf ys7 n7) :: t', rfl, ?a1, cons_okL hok', ?a2⟩
    case hn0 => (((repeat (refine List.forall_mem_cons.mpr ⟨?_, ?_⟩; (focus walk_at "lmem"))); first | exact fun _ h => absurd h List.not_mem_nil | (intro p9 hp9; walk_at "lmem")))
    case hn => exact fun p hp => List.mem_cons_of_mem _ (by revert p; (((repeat (refine List.forall_mem_cons.mpr ⟨?_, ?_⟩; (focus walk_at "lmem"))); first | exact fun _ h => absurd h List.not_mem_nil | (intro p9 hp9; walk_at "lmem"))))
    case hB => (dsimp only [base7, List.cons_append, List.nil_append]; (((repeat (refine List.forall_mem_cons.mpr ⟨?_, ?_⟩; (focus walk_at "lmem"))); first | exact fun _ h => absurd h List.not_mem_nil | (intro p9 hp9; walk_at "lmem"))))
    case a1 => exact fun p hp => List.mem_cons_of_mem _ (hs' p hp)
    case a2 =>
      rw [take_snoc hRi, List.map_append]
      exact (hL'.mono fun p hp => List.mem_cons_of_mem _ hp).append (.cons (Y := ys7.toList) (n := n7) (by rw [Array.toArray_toList]; exact List.mem_cons_self ..) (hYs.mono fun p hp => List.mem_cons_of_mem _ hp) .nil)
  case fin =>
    rintro D7 ys nx h' tk ⟨t', rfl, hs', hok', hL'⟩ hyl hDn F3 N3
    (try dsimp only)
    (((try dsimp only); (repeat (k_unfold; (try dsimp only)))))
    have hyl4 := hL'.length
    have eo := ahead_ord (ks.map fun k => (k.asc, k.num))
    refine lawB7 (txd := txd) (q1 := q1) (v1 := v1) (n1 := n1) (shd := shd) (q2 := q2) (v2 := v2) (n2 := n2) (ks := ks) (kn := kn) (LA := D7) (vA := ys) (S0 := insAll (spec ks) R0) (S1 := insAll (spec ks) R1) (S2 := insAll (spec ks) R2) (S3 := insAll (spec ks) R3) (t := (D7, LCg.lst ys) :: t') X T hd hu B ⟨hsm, F3, ?fN, hc, hb, ha, cons_okL hok', ?fW, ?fK, hsp, rfl, rfl⟩ rfl (List.mem_cons_self ..) ?fL (insAll_srt eo) (insAll_srt eo) (insAll_srt eo) (insAll_srt eo) ?fR ?fq
    case fN => exact led_cons N3
    case fW => exact hW.mono fun p hp => List.mem_cons_of_mem _ (hs' p (hsub p hp))
    case fK => exact hK.mono fun p hp => List.mem_cons_of_mem _ (hs' p (hsub p hp))
    case fL => exact hL'.mono fun p hp => List.mem_cons_of_mem _ hp
    case fR => simp only [insAll_length]; exact hR
    case fq => (intro h9 tk9 hx9; exact hQ _ _ hx9)
end
-- Lc
section
local macro_rules | `(tactic| k_all) => `(tactic| assumption)
theorem six_ne {a0 a1 a2 a3 l r : Nat} (h1 : a0 < a1) (h2 : a1 < a2) (h3 : a2 < a3) (h4 : a3 < l) (h5 : l < r) : (a0 ≠ a1 ∧ a0 ≠ a2 ∧ a0 ≠ a3 ∧ a0 ≠ l ∧ a0 ≠ r) ∧ (a1 ≠ a2 ∧ a1 ≠ a3 ∧ a1 ≠ l ∧ a1 ≠ r) ∧ (a2 ≠ a3 ∧ a2 ≠ l ∧ a2 ≠ r) ∧ (a3 ≠ l ∧ a3 ≠ r) ∧ l ≠ r := by omega
theorem low_ne {x a0 a1 a2 a3 : Nat} (h : x < a0) (h1 : a0 < a1) (h2 : a1 < a2) (h3 : a2 < a3) : x ≠ a0 ∧ x ≠ a1 ∧ x ≠ a2 ∧ x ≠ a3 := by omega
set_option maxRecDepth 100000 in
set_option maxHeartbeats 8000000 in
theorem lawB4 : ∀ {w : World} {mean : ExcName → Option Value} {mg mb : Str → Option Value} {s : Shared} {dp un : Nat} {base : Heap} {outer : List Env} {gd : Option (List Code)} {Q : Flow → Shared → Prop} {sc : Addr} {vs : List Value} {ns : List Int}
   {h : Heap} {tk : Nat} {sm : Int} {tsm : Tok} {tx txd : Addr} {q1 : HK} {v1 : Value} {n1 : Nat} {sh shd : Addr} {q2 : HK} {v2 : Value} {n2 : Nat} {oc ob oa : Obj} {W D : Addr} {ks kn : List KeyD} {t : List (Addr × Obj)},
   (Mine.hd.heap_39 w.params).In s.heap → Top Mine.hd.view_39 LL mean mg mb s.heap → dp + 40 < recursionLimit → un + 400 < cLine → Below ⟨none, dp, some outer, gd, un⟩ base outer s.heap →
   s.heap.IsList sc vs.toArray → IntsAre vs ns → ns.length ≤ 63 →
   LS4 s h sc sm tsm tx txd q1 v1 n1 sh shd q2 v2 n2 oc ob oa W D ks kn t →
   (∀ h' tk', Ext s.heap h' → Q (.ret (.bool true)) { s with heap := h', toks := tk' }) →
   wpAny (model Challenge.rw_pc0145_01.row.prog w) (Around.deeper ⟨none, dp, some outer, gd, un⟩ (lawEnv s.heap.objs.size)) (execs (lawBody.drop 4) (lawEnv s.heap.objs.size)) Q (fun _ _ => False) { s with heap := h, toks := tk } := by
  k_fill
  intro w mean mg mb s dp un base outer gd Q sc vs ns h tk sm tsm tx txd q1 v1 n1 sh shd q2 v2 n2 oc ob oa W D ks kn t X T hd hu B hl hi hn S4 hQ
  obtain ⟨hsm, F, N, hc, hb, ha, ht, hW, hK, hsp⟩ := S4
  have hlen := hi.length
  conv in (List.drop 4 lawBody) => whnf
  dsimp only [led, base7, List.cons_append, List.nil_append] at N
  (try k_fold)
  repeat' (first | (fail_if_success (with_reducible show wpAny _ _ (exec (Stmt.For _ _ _ _ _) _) _ _ _)); (first | (k_unfold; (try dsimp only)) | (k_end; wrow_close) | walk1 | (dsimp only; walk1) | (leave1; walk_say "STEP leave1"; try dsimp only)) | fail "no")
  with_unfolding_all refine' For_G (by assumption) ?_
  repeat' (first | (fail_if_success (with_reducible show wpAny _ _ (call (Value.type "enumerate") _) _ _ _)); (first | (k_unfold; (try dsimp only)) | (k_end; wrow_close) | walk1 | (dsimp only; walk1) | (leave1; walk_say "STEP leave1"; try dsimp only)) | fail "no")
  (rename News _ _ _ _ => N9)
  (rename Fr _ _ _ _ => F9)
  refine' nrm5 (tr := fun x => call (.type "enumerate") [.ref x]) (B := base7 tx txd q1 v1 n1 sh shd q2 v2 n2 (s.heap.objs.size + 1 + 1 + 1) (s.heap.objs.size + 1 + 1) (s.heap.objs.size + 1) oc ob oa) (t := t) F9 N9 ?hs ?ht ?hi ?ho ?hl ?_
  (case hs => (dsimp only [led6, base7, List.cons_append, List.nil_append, List.append_nil]; (((repeat (refine List.forall_mem_cons.mpr ⟨?_, ?_⟩; (focus walk_at "lmem"))); first | exact fun _ h => absurd h List.not_mem_nil | (intro p9 hp9; walk_at "lmem")))))
  (case ht => walk_at "in_tail")
  (case hi => assumption)
  (case ho => (refine ⟨?_, ?_, ?_, ?_, ?_⟩ <;> omega))
  (case hl => (refine ⟨?_, (by assumption : (_ ∧ _ ∧ _ ∧ _ ∧ _ ∧ _ ∧ _ ∧ AllLt _ t)).2.2.2.2.2.2.2⟩; simp only [AllLt, and_true]; omega))
  clear F9 N9
  intro SL LL a0 a1 a2 a3 items h5 tk5 F5 N5 hi5 ho5 hl5
  obtain ⟨o5a, o5b, o5c, o5d, o5e⟩ := ho5
  obtain ⟨hlB, hlt⟩ := hl5
  have hil := hi5.length
  have hokt : ∀ p ∈ t, notCell p.2 = true ∧ NI2 p.2 := ht
  with_unfolding_all refine' for_enum (l := SL) (items := items) (n := 0) (fun i m nx => ∃ X0 X1 X2 X3 k0 k1 k2 k3 t' R0 R1 R2 R3, LInv SL LL a0 a1 a2 a3 items (base7 tx txd q1 v1 n1 sh shd q2 v2 n2 (s.heap.objs.size + 1 + 1 + 1) (s.heap.objs.size + 1 + 1) (s.heap.objs.size + 1) oc ob oa) t (fun y => if y = Str.ofString "lists" then some (.ref LL) else if y = Str.ofString "keys" then some (.ref D) else if y = Str.ofString "some" then some (.int sm tsm) else if y = Str.ofString "script" then some (.ref sc) else none) i m nx X0 X1 X2 X3 k0 k1 k2 k3 t' R0 R1 R2 R3) rfl F5 N5 (List.mem_cons_self ..) ?hj ?hnc ?hsrc ?turn ?done ?hE
  case hj => exact ⟨[], [], [], [], 0, 0, 0, 0, t, [], [], [], [], rfl, fun _ _ => rfl, .nil, .nil, .nil, .nil, rfl, fun _ h => h, hokt, fun p hp => Nat.ne_of_lt (allLt_mem hlt p hp), fun p hp => Nat.ne_of_lt (Nat.lt_trans (allLt_mem hlt p hp) o5a), fun p hp => Nat.ne_of_lt (Nat.lt_trans (Nat.lt_trans (allLt_mem hlt p hp) o5a) o5b), fun p hp => Nat.ne_of_lt (Nat.lt_trans (Nat.lt_trans (Nat.lt_trans (allLt_mem hlt p hp) o5a) o5b) o5c)⟩
  case hnc => exact led6_ni hc hb ha hokt
  case hsrc =>
    rintro i m nx ⟨X0, X1, X2, X3, k0, k1, k2, k3, t', R0, R1, R2, R3, x⟩
    rw [x.e]
    exact List.mem_cons_self ..
  case hE => passes_own
  case turn =>
    rintro i v T tki e oe it oit m₁ nx h6 tk6 hv ⟨X0, X1, X2, X3, k0, k1, k2, k3, t', R0, R1, R2, R3, x⟩ F6 N6 hoff
    obtain ⟨rfl, hm, w0, w1, w2, w3, hR, hsub, hok, d0, d1, d2, d3⟩ := x
    rw [stored_fn hm] at F6
    obtain ⟨z, tz, rfl⟩ := ints_at hi5 hv
    dsimp only [led6, base7, List.cons_append, List.nil_append] at N6
    k_steps
    (rename News _ _ _ _ => N9)
    with_unfolding_all refine' cut_sub N9 ?hm (fmod4 _) ?_
    (case hm => k_mem)
    intro aj haj
    obtain ⟨Xj, kj, hj⟩ : ∃ Xj kj, (aj, listOf Xj kj) ∈ led6 SL LL a0 a1 a2 a3 items X0 X1 X2 X3 k0 k1 k2 k3 (base7 tx txd q1 v1 n1 sh shd q2 v2 n2 (s.heap.objs.size + 1 + 1 + 1) (s.heap.objs.size + 1 + 1) (s.heap.objs.size + 1) oc ob oa) t' := by
      rcases haj with rfl | rfl | rfl | rfl
      · exact ⟨_, _, by dsimp only [led6]; k_mem⟩
      · exact ⟨_, _, by dsimp only [led6]; k_mem⟩
      · exact ⟨_, _, by dsimp only [led6]; k_mem⟩
      · exact ⟨_, _, by dsimp only [led6]; k_mem⟩
    have N10 := news_front N9 (p := (aj, listOf Xj kj)) (List.mem_cons_of_mem _ (by
      have : ∀ p ∈ led6 SL LL a0 a1 a2 a3 items X0 X1 X2 X3 k0 k1 k2 k3 (base7 tx txd q1 v1 n1 sh shd q2 v2 n2 (s.heap.objs.size + 1 + 1 + 1) (s.heap.objs.size + 1 + 1) (s.heap.objs.size + 1) oc ob oa) t', p ∈ led6 SL LL a0 a1 a2 a3 items X0 X1 X2 X3 k0 k1 k2 k3 (base7 tx txd q1 v1 n1 sh shd q2 v2 n2 (s.heap.objs.size + 1 + 1 + 1) (s.heap.objs.size + 1 + 1) (s.heap.objs.size + 1) oc ob oa) t' ++ [(e, oe), (it, oit)] := fun p hp => List.mem_append_left _ hp
      simpa only [led6, base7, List.cons_append, List.nil_append] using this _ hj))
    clear N9
    (try dsimp only)
    k_steps
    (rename News _ _ _ _ => N9)
    have N10 := news_drop2 N9
    clear N9
    have N9 := N10
    clear N10
    have hlB' := hlB
    simp only [base7, AllLt, and_true] at hlB'
    have hi8 : items.length ≤ 8 := by rw [hil]; simp only [List.length_append, List.length_take, List.length_cons, List.length_nil]; omega
    have hii : i < items.length := (List.getElem?_eq_some_iff.mp hv).1
    obtain ⟨⟨e01, e02, e03, e04, e05⟩, ⟨e12, e13, e14, e15⟩, ⟨e23, e24, e25⟩, ⟨e34, e35⟩, e45⟩ := six_ne o5a o5b o5c o5d o5e
    obtain ⟨q1', q2', q3', q4', q5', q6', q7'⟩ := hlB'
    obtain ⟨f10, f11, f12, f13⟩ := low_ne q1' o5a o5b o5c
    obtain ⟨f20, f21, f22, f23⟩ := low_ne q2' o5a o5b o5c
    obtain ⟨f30, f31, f32, f33⟩ := low_ne q3' o5a o5b o5c
    obtain ⟨f40, f41, f42, f43⟩ := low_ne q4' o5a o5b o5c
    obtain ⟨f50, f51, f52, f53⟩ := low_ne q5' o5a o5b o5c
    obtain ⟨f60, f61, f62, f63⟩ := low_ne q6' o5a o5b o5c
    obtain ⟨f70, f71, f72, f73⟩ := low_ne q7' o5a o5b o5c
    obtain ⟨r, hr1, hr2, hr3⟩ := row_ex (if z < 0 then -z else z) ((if z < 0 then -z else z).fdiv 3) i (by omega)
    rcases haj with rfl | rfl | rfl | rfl
    · have dd := all_app2 (oe := oe) (oit := oit) d0 (Ne.symm (hoff (aj, _) (by dsimp only [led6]; k_mem)).1) (Ne.symm (hoff (aj, _) (by dsimp only [led6]; k_mem)).2)
      have nT : @Ne Nat T aj := ne_clsT N9 (oa := { cls := .type "tuple", data := .seq #[.int (i : Int) tki, .int z tz] }) (ob := listOf X0.toArray k0) (by k_mem) (by k_mem) (fun h => absurd (Value.type.inj h) (by decide))
      (rename Fr _ _ _ _ => F9)
      have lX := w0.length
      refine' append_led (X := X0) (k := k0) F9 N9 ?U (by omega) ?_
      case U => k_updF
      clear F9 N9
      intro h9 F9 N9
      (try dsimp only at N9)
      k_steps
      (rename News _ _ _ _ => N11)
      refine' epost_next (nx := led6 SL LL _ _ _ _ items (X0 ++ [_]) X1 X2 X3 (k0 + 1) k1 k2 k3 (base7 tx txd q1 v1 n1 sh shd q2 v2 n2 (s.heap.objs.size + 1 + 1 + 1) (s.heap.objs.size + 1 + 1) (s.heap.objs.size + 1) oc ob oa) ((_, tupO _ _) :: t')) (by assumption) N11 ?hn ?hx (led6_ni hc hb ha (cons_ok hok)) ⟨_, _, _, _, _, _, _, _, _, _, _, _, _, rfl, ?hm, w0.snoc (wrl_new hr1 hr2 hr3), w1.up, w2.up, w3.up, ?len, ?sub, cons_ok hok, cons_all d0 ?e0, cons_all d1 ?e1, cons_all d2 ?e2, cons_all d3 ?e3⟩
      case hn => (((repeat (refine List.forall_mem_cons.mpr ⟨?_, ?_⟩; (focus walk_at "lmem"))); first | exact fun _ h => absurd h List.not_mem_nil | (intro p9 hp9; walk_at "lmem")))
      case hx => (dsimp only [led6, base7, tupO, List.cons_append, List.nil_append]; (((repeat (refine List.forall_mem_cons.mpr ⟨?_, ?_⟩; (focus walk_at "lmem"))); first | exact fun _ h => absurd h List.not_mem_nil | (intro p9 hp9; walk_at "lmem"))))
      case hm => (intro y3 h3; simp only [List.contains_cons, List.contains_nil, Bool.or_false, Bool.or_eq_false_iff, beq_eq_false_iff_ne, ne_eq] at h3; simp [h3])
      case len => (simp only [List.length_append, List.length_cons, List.length_nil]; omega)
      case sub => exact fun p hp => List.mem_cons_of_mem _ (hsub p hp)
      case e0 => (refine neN ?_; first | walk_at "ne_pick" | omega)
      case e1 => (refine neN ?_; first | walk_at "ne_pick" | omega)
      case e2 => (refine neN ?_; first | walk_at "ne_pick" | omega)
      case e3 => (refine neN ?_; first | walk_at "ne_pick" | omega)
    · have dd := all_app2 (oe := oe) (oit := oit) d1 (Ne.symm (hoff (aj, _) (by dsimp only [led6]; k_mem)).1) (Ne.symm (hoff (aj, _) (by dsimp only [led6]; k_mem)).2)
      have nT : @Ne Nat T aj := ne_clsT N9 (oa := { cls := .type "tuple", data := .seq #[.int (i : Int) tki, .int z tz] }) (ob := listOf X1.toArray k1) (by k_mem) (by k_mem) (fun h => absurd (Value.type.inj h) (by decide))
      (rename Fr _ _ _ _ => F9)
      have lX := w1.length
      refine' append_led (X := X1) (k := k1) F9 N9 ?U (by omega) ?_
      case U => k_updF
      clear F9 N9
      intro h9 F9 N9
      (try dsimp only at N9)
      k_steps
      (rename News _ _ _ _ => N11)
      refine' epost_next (nx := led6 SL LL _ _ _ _ items X0 (X1 ++ [_]) X2 X3 k0 (k1 + 1) k2 k3 (base7 tx txd q1 v1 n1 sh shd q2 v2 n2 (s.heap.objs.size + 1 + 1 + 1) (s.heap.objs.size + 1 + 1) (s.heap.objs.size + 1) oc ob oa) ((_, tupO _ _) :: t')) (by assumption) N11 ?hn ?hx (led6_ni hc hb ha (cons_ok hok)) ⟨_, _, _, _, _, _, _, _, _, _, _, _, _, rfl, ?hm, w0.up, w1.snoc (wrl_new hr1 hr2 hr3), w2.up, w3.up, ?len, ?sub, cons_ok hok, cons_all d0 ?e0, cons_all d1 ?e1, cons_all d2 ?e2, cons_all d3 ?e3⟩
      case hn => (((repeat (refine List.forall_mem_cons.mpr ⟨?_, ?_⟩; (focus walk_at "lmem"))); first | exact fun _ h => absurd h List.not_mem_nil | (intro p9 hp9; walk_at "lmem")))
      case hx => (dsimp only [led6, base7, tupO, List.cons_append, List.nil_append]; (((repeat (refine List.forall_mem_cons.mpr ⟨?_, ?_⟩; (focus walk_at "lmem"))); first | exact fun _ h => absurd h List.not_mem_nil | (intro p9 hp9; walk_at "lmem"))))
      case hm => (intro y3 h3; simp only [List.contains_cons, List.contains_nil, Bool.or_false, Bool.or_eq_false_iff, beq_eq_false_iff_ne, ne_eq] at h3; simp [h3])
      case len => (simp only [List.length_append, List.length_cons, List.length_nil]; omega)
      case sub => exact fun p hp => List.mem_cons_of_mem _ (hsub p hp)
      case e0 => (refine neN ?_; first | walk_at "ne_pick" | omega)
      case e1 => (refine neN ?_; first | walk_at "ne_pick" | omega)
      case e2 => (refine neN ?_; first | walk_at "ne_pick" | omega)
      case e3 => (refine neN ?_; first | walk_at "ne_pick" | omega)
    · have dd := all_app2 (oe := oe) (oit := oit) d2 (Ne.symm (hoff (aj, _) (by dsimp only [led6]; k_mem)).1) (Ne.symm (hoff (aj, _) (by dsimp only [led6]; k_mem)).2)
      have nT : @Ne Nat T aj := ne_clsT N9 (oa := { cls := .type "tuple", data := .seq #[.int (i : Int) tki, .int z tz] }) (ob := listOf X2.toArray k2) (by k_mem) (by k_mem) (fun h => absurd (Value.type.inj h) (by decide))
      (rename Fr _ _ _ _ => F9)
      have lX := w2.length
      refine' append_led (X := X2) (k := k2) F9 N9 ?U (by omega) ?_
      case U => k_updF
      clear F9 N9
      intro h9 F9 N9
      (try dsimp only at N9)
      k_steps
      (rename News _ _ _ _ => N11)
      refine' epost_next (nx := led6 SL LL _ _ _ _ items X0 X1 (X2 ++ [_]) X3 k0 k1 (k2 + 1) k3 (base7 tx txd q1 v1 n1 sh shd q2 v2 n2 (s.heap.objs.size + 1 + 1 + 1) (s.heap.objs.size + 1 + 1) (s.heap.objs.size + 1) oc ob oa) ((_, tupO _ _) :: t')) (by assumption) N11 ?hn ?hx (led6_ni hc hb ha (cons_ok hok)) ⟨_, _, _, _, _, _, _, _, _, _, _, _, _, rfl, ?hm, w0.up, w1.up, w2.snoc (wrl_new hr1 hr2 hr3), w3.up, ?len, ?sub, cons_ok hok, cons_all d0 ?e0, cons_all d1 ?e1, cons_all d2 ?e2, cons_all d3 ?e3⟩
      case hn => (((repeat (refine List.forall_mem_cons.mpr ⟨?_, ?_⟩; (focus walk_at "lmem"))); first | exact fun _ h => absurd h List.not_mem_nil | (intro p9 hp9; walk_at "lmem")))
      case hx => (dsimp only [led6, base7, tupO, List.cons_append, List.nil_append]; (((repeat (refine List.forall_mem_cons.mpr ⟨?_, ?_⟩; (focus walk_at "lmem"))); first | exact fun _ h => absurd h List.not_mem_nil | (intro p9 hp9; walk_at "lmem"))))
      case hm => (intro y3 h3; simp only [List.contains_cons, List.contains_nil, Bool.or_false, Bool.or_eq_false_iff, beq_eq_false_iff_ne, ne_eq] at h3; simp [h3])
      case len => (simp only [List.length_append, List.length_cons, List.length_nil]; omega)
      case sub => exact fun p hp => List.mem_cons_of_mem _ (hsub p hp)
      case e0 => (refine neN ?_; first | walk_at "ne_pick" | omega)
      case e1 => (refine neN ?_; first | walk_at "ne_pick" | omega)
      case e2 => (refine neN ?_; first | walk_at "ne_pick" | omega)
      case e3 => (refine neN ?_; first | walk_at "ne_pick" | omega)
    · have dd := all_app2 (oe := oe) (oit := oit) d3 (Ne.symm (hoff (aj, _) (by dsimp only [led6]; k_mem)).1) (Ne.symm (hoff (aj, _) (by dsimp only [led6]; k_mem)).2)
      have nT : @Ne Nat T aj := ne_clsT N9 (oa := { cls := .type "tuple", data := .seq #[.int (i : Int) tki, .int z tz] }) (ob := listOf X3.toArray k3) (by k_mem) (by k_mem) (fun h => absurd (Value.type.inj h) (by decide))
      (rename Fr _ _ _ _ => F9)
      have lX := w3.length
      refine' append_led (X := X3) (k := k3) F9 N9 ?U (by omega) ?_
      case U => k_updF
      clear F9 N9
      intro h9 F9 N9
      (try dsimp only at N9)
      k_steps
      (rename News _ _ _ _ => N11)
      refine' epost_next (nx := led6 SL LL _ _ _ _ items X0 X1 X2 (X3 ++ [_]) k0 k1 k2 (k3 + 1) (base7 tx txd q1 v1 n1 sh shd q2 v2 n2 (s.heap.objs.size + 1 + 1 + 1) (s.heap.objs.size + 1 + 1) (s.heap.objs.size + 1) oc ob oa) ((_, tupO _ _) :: t')) (by assumption) N11 ?hn ?hx (led6_ni hc hb ha (cons_ok hok)) ⟨_, _, _, _, _, _, _, _, _, _, _, _, _, rfl, ?hm, w0.up, w1.up, w2.up, w3.snoc (wrl_new hr1 hr2 hr3), ?len, ?sub, cons_ok hok, cons_all d0 ?e0, cons_all d1 ?e1, cons_all d2 ?e2, cons_all d3 ?e3⟩
      case hn => (((repeat (refine List.forall_mem_cons.mpr ⟨?_, ?_⟩; (focus walk_at "lmem"))); first | exact fun _ h => absurd h List.not_mem_nil | (intro p9 hp9; walk_at "lmem")))
      case hx => (dsimp only [led6, base7, tupO, List.cons_append, List.nil_append]; (((repeat (refine List.forall_mem_cons.mpr ⟨?_, ?_⟩; (focus walk_at "lmem"))); first | exact fun _ h => absurd h List.not_mem_nil | (intro p9 hp9; walk_at "lmem"))))
      case hm => (intro y3 h3; simp only [List.contains_cons, List.contains_nil, Bool.or_false, Bool.or_eq_false_iff, beq_eq_false_iff_ne, ne_eq] at h3; simp [h3])
      case len => (simp only [List.length_append, List.length_cons, List.length_nil]; omega)
      case sub => exact fun p hp => List.mem_cons_of_mem _ (hsub p hp)
      case e0 => (refine neN ?_; first | walk_at "ne_pick" | omega)
      case e1 => (refine neN ?_; first | walk_at "ne_pick" | omega)
      case e2 => (refine neN ?_; first | walk_at "ne_pick" | omega)
      case e3 => (refine neN ?_; first | walk_at "ne_pick" | omega)
  case done =>
    rintro m₁ nx h6 tk6 ⟨X0, X1, X2, X3, k0, k1, k2, k3, t', R0, R1, R2, R3, x⟩ F6 N6
    obtain ⟨rfl, hm, w0, w1, w2, w3, hR, hsub, hok, d0, d1, d2, d3⟩ := x
    rw [stored_fn hm] at F6
    have hi8 : items.length ≤ 8 ∧ 2 ≤ items.length := by rw [hil]; simp only [List.length_append, List.length_take, List.length_cons, List.length_nil]; omega
    (((try dsimp only); (repeat (k_unfold; (try dsimp only)))))
    exact lawB6 (tsm := tsm) (tx := tx) (txd := txd) (q1 := q1) (v1 := v1) (n1 := n1) (sh := sh) (shd := shd) (q2 := q2) (v2 := v2) (n2 := n2) X T hd hu B hl hi hn ⟨hsm, F6, N6, hc, hb, ha, hok, hW.mono hsub, hK.mono hsub, hsp, w0, w1, w2, w3, by omega⟩ hQ
end
-- La1
set_option maxRecDepth 100000 in
set_option maxHeartbeats 8000000 in
theorem lawB1 : ∀ {w : World} {mean : ExcName → Option Value} {mg mb : Str → Option Value} {s : Shared} {dp un : Nat} {base : Heap} {outer : List Env} {gd : Option (List Code)} {Q : Flow → Shared → Prop} {sc : Addr} {vs : List Value} {ns : List Int}
   {h : Heap} {tk : Nat} {tx txd : Addr} {q1 : HK} {v1 : Value} {n1 : Nat} {sh shd : Addr} {q2 : HK} {v2 : Value} {n2 : Nat} {oc ob oa : Obj},
   (Mine.hd.heap_39 w.params).In s.heap → Top Mine.hd.view_39 LL mean mg mb s.heap → dp + 40 < recursionLimit → un + 400 < cLine → Below ⟨none, dp, some outer, gd, un⟩ base outer s.heap →
   s.heap.IsList sc vs.toArray → IntsAre vs ns → ns.length ≤ 63 →
   Fr s.heap s.heap.objs.size h (fun y => if y = Str.ofString "script" then some (.ref sc) else none) →
   News s.heap s.heap.objs.size h (led tx txd q1 v1 n1 sh shd q2 v2 n2 (s.heap.objs.size + 1 + 1 + 1) (s.heap.objs.size + 1 + 1) (s.heap.objs.size + 1) oc ob oa []) →
   oc.data = .cell none → ob.data = .cell (some (.ref tx)) → oa.data = .cell (some (.ref sh)) →
   (∀ h' tk', Ext s.heap h' → Q (.ret (.bool true)) { s with heap := h', toks := tk' }) →
   wpAny (model Challenge.rw_pc0145_01.row.prog w) (Around.deeper ⟨none, dp, some outer, gd, un⟩ (lawEnv s.heap.objs.size)) (execs (lawBody.drop 1) (lawEnv s.heap.objs.size)) Q (fun _ _ => False) { s with heap := h, toks := tk } := by
  k_fill
  intro w mean mg mb s dp un base outer gd Q sc vs ns h tk tx0 txd0 q10 v10 n10 sh0 shd0 q20 v20 n20 oc0 ob0 oa0 X T hd hu B hl hi hn F N hc0 hb0 ha0 hQ
  have hlen := hi.length
  conv in (List.drop 1 lawBody) => whnf
  dsimp only [led, base7, List.cons_append, List.nil_append] at N
  (try k_fold)
  repeat' (first | (fail_if_success (with_reducible show wpAny _ _ (exec (Stmt.Assign [Expr.Name (Str.ofString "wanted") _] _ _) _) _ _ _)); (first | (k_unfold; (try dsimp only)) | (k_end; wrow_close) | walk1 | (dsimp only; walk1) | (leave1; walk_say "STEP leave1"; try dsimp only)) | fail "no")
  (rename News _ _ _ _ => N9)
  (rename Fr _ _ _ _ => F9)
  refine' nrm1 (c3 := s.heap.objs.size + 1 + 1 + 1) (c2 := s.heap.objs.size + 1 + 1) (c1 := s.heap.objs.size + 1) F9 N9 ?hs ?h0 ?ha ?hb ?hc ?_
  (case hs => (((repeat (refine List.forall_mem_cons.mpr ⟨?_, ?_⟩; (focus k_mem))); exact fun _ h => absurd h List.not_mem_nil)))
  (case ha => assumption)
  (case hb => assumption)
  (case hc => assumption)
  (case h0 => split <;> omega)
  clear F9 N9
  intro sm tsm h1 tk1 tx txd q1 v1 n1 sh shd q2 v2 n2 oc ob oa hsm F1 N1 ha hb hc
  dsimp only [led, base7, List.cons_append, List.nil_append] at N1
  (first | (k_unfold; (try dsimp only)) | (k_end; wrow_close) | walk1 | (dsimp only; walk1) | (leave1; walk_say "STEP leave1"; try dsimp only))
  refine' cut_want (s := s) F1 N1 ?_ ?_
  · k_steps
    all_goals (try (((try dsimp only); (repeat (k_unfold; (try dsimp only))))))
    · refine' want_two ?F ?N ?b ?w ?k ?k2 (fmod2 _) (.inr rfl)
      (case F => assumption)
      (case N => assumption)
      (case b => (((repeat (refine List.forall_mem_cons.mpr ⟨?_, ?_⟩; (focus k_mem))); exact fun _ h => absurd h List.not_mem_nil)))
      (case w => k_mem)
      (case k => k_mem)
      (case k2 => k_mem)
    · refine' want_one ?F ?N ?b ?w ?k (fmod2 _)
      (case F => assumption)
      (case N => assumption)
      (case b => (((repeat (refine List.forall_mem_cons.mpr ⟨?_, ?_⟩; (focus k_mem))); exact fun _ h => absurd h List.not_mem_nil)))
      (case w => k_mem)
      (case k => k_mem)
  intro W ks tail h2 tk2 hks F2 N2 hW htc hti
  simp only [List.cons_append, List.nil_append] at N2
  repeat' (first | (fail_if_success (with_reducible show wpAny _ _ (exec (Stmt.Assign [Expr.Name (Str.ofString "keys") _] _ _) _) _ _ _)); (first | (k_unfold; (try dsimp only)) | (k_end; wrow_close) | walk1 | (dsimp only; walk1) | (leave1; walk_say "STEP leave1"; try dsimp only)) | fail "no")
  (rename News _ _ _ _ => N9)
  (rename Fr _ _ _ _ => F9)
  (rename Obj => oc2)
  (rename Obj.data _ = _ => hc2)
  clear hc
  ((with_unfolding_all refine' Assign_J ?hhx302 ?hswx302 ?hclosx302 ?hcellx302 ?hkindx302 ?hnamesx302 ?hyx302 ?hpx302 ?_ ?hsx302; (case hhx302 => rfl); (case hswx302 => with_unfolding_all rfl); (case hclosx302 => with_unfolding_all rfl); (case hcellx302 => decide); (case hkindx302 => with_unfolding_all rfl); (case hnamesx302 => decide); (case hyx302 => rfl); (case hpx302 => rfl); (case hsx302 => intro _; with_unfolding_all rfl)))
  k_steps
  (rename News _ _ _ _ => N9)
  (rename Fr _ _ _ _ => F9)
  obtain ⟨⟨nW, hWm⟩, hWk⟩ := hW
  with_unfolding_all refine' cja_intro (ks.map fun k => Value.ref k.k) (fun i ys nx => ∃ t, nx = led tx txd q1 v1 n1 sh shd q2 v2 n2 (s.heap.objs.size + 1 + 1 + 1) (s.heap.objs.size + 1 + 1) (s.heap.objs.size + 1) oc2 ob oa t ∧ KInv ks tail sh tx i ys t) F9 N9 ?src ?sz ?nc ⟨tail, rfl, KInv.zero htc hti⟩ ?go ?turn ?fin
  case src =>
    rintro i ys nx ⟨t, rfl, hk⟩
    obtain ⟨kn, _, _, _, h4, _⟩ := hk
    exact .inr ⟨_, List.mem_append_right _ (h4 _ hWm), rfl, _, rfl⟩
  case sz => (rw [List.length_map]; rcases hks with h | h <;> rw [h] <;> decide)
  case nc => exact base7_ni hc2 hb ha fun p hp => (hti p hp).ni
  case go => exact refs_go (by intro v hv; obtain ⟨k, _, rfl⟩ := List.mem_map.mp hv; exact ⟨_, rfl⟩)
  case turn =>
    rintro i v ys nx C D I oI oL h tk m₂ E' hv ⟨t, rfl, hK⟩ hyl F2 N2 hoff
    obtain ⟨k, hki, rfl⟩ := ref_at hv
    obtain ⟨tp, nk, hkm⟩ := hWk k (List.mem_of_getElem? hki)
    have hK' := hK
    obtain ⟨kn, _, _, _, h4, h5⟩ := hK'
    have hkm' := h4 _ hkm
    have hni := base7_ni (tx := tx) (txd := txd) (q1 := q1) (v1 := v1) (n1 := n1) (sh := sh) (shd := shd) (q2 := q2) (v2 := v2) (n2 := n2) (c3 := s.heap.objs.size + 1 + 1 + 1) (c2 := s.heap.objs.size + 1 + 1) (c1 := s.heap.objs.size + 1) hc2 hb ha fun p hp => (h5 p hp).2.ni
    have N3 := news_front N2 (p := (k.k, _)) (List.mem_append_left _ (List.mem_append_right _ hkm'))
    dsimp only [led, base7, tupO, List.cons_append, List.nil_append] at N3
    clear N2
    have e5 : (if k.num = true then sh else tx) = if k.num then sh else tx := rfl
    cases hkn : k.num with
    | true =>
      rw [hkn] at N3
      simp only [if_true] at N3
      k_steps
      all_goals (first | (first | exact (0 : Nat) | exact Str.ofString "" | exact Value.none | exact ([] : List (Str × Addr))) | skip)
      (rename News _ _ _ _ => N9)
      refine' key_post (by assumption) N9 ?hKm ?hn ?hB hoff hni hyl.2 hK hki rfl ?hpl ?hr
      (case hKm => k_mem)
      (case hpl => rw [hkn]; rfl)
      (case hr => rw [hkn]; rfl)
      (case hn => (((repeat (refine List.forall_mem_cons.mpr ⟨?_, ?_⟩; (focus walk_at "lmem"))); first | exact fun _ h => absurd h List.not_mem_nil | (intro p9 hp9; walk_at "lmem"))))
      (case hB => (dsimp only [base7, List.cons_append, List.nil_append]; (((repeat (refine List.forall_mem_cons.mpr ⟨?_, ?_⟩; (focus walk_at "lmem"))); first | exact fun _ h => absurd h List.not_mem_nil | (intro p9 hp9; walk_at "lmem")))))
    | false =>
      rw [hkn] at N3
      simp only [Bool.false_eq_true, if_false] at N3
      k_steps
      all_goals (first | (first | exact (0 : Nat) | exact Str.ofString "" | exact Value.none | exact ([] : List (Str × Addr))) | skip)
      (rename News _ _ _ _ => N9)
      refine' key_post (by assumption) N9 ?hKm ?hn ?hB hoff hni hyl.2 hK hki rfl ?hpl ?hr
      (case hKm => k_mem)
      (case hpl => rw [hkn]; rfl)
      (case hr => rw [hkn]; rfl)
      (case hn => (((repeat (refine List.forall_mem_cons.mpr ⟨?_, ?_⟩; (focus walk_at "lmem"))); first | exact fun _ h => absurd h List.not_mem_nil | (intro p9 hp9; walk_at "lmem"))))
      (case hB => (dsimp only [base7, List.cons_append, List.nil_append]; (((repeat (refine List.forall_mem_cons.mpr ⟨?_, ?_⟩; (focus walk_at "lmem"))); first | exact fun _ h => absurd h List.not_mem_nil | (intro p9 hp9; walk_at "lmem")))))
  case fin =>
    rintro D ys nx h' tk ⟨t, rfl, hK⟩ hyl hDn F3 N3
    obtain ⟨kn, rfl, hkn, hkl, h4, h5⟩ := hK
    rw [List.take_of_length_le (by simp)] at hkn
    (try dsimp only)
    (((try dsimp only); (repeat (k_unfold; (try dsimp only)))))
    refine lawB4 (tsm := tsm) (tx := tx) (txd := txd) (q1 := q1) (v1 := v1) (n1 := n1) (sh := sh) (shd := shd) (q2 := q2) (v2 := v2) (n2 := n2) (D := D) (kn := kn) (t := (D, LCg.lst (kn.map fun k => Value.ref k.k)) :: t) X T hd hu B hl hi hn ⟨hsm, ?fF, ?fN, hc2, hb, ha, ?ft, ⟨⟨_, List.mem_cons_of_mem _ (h4 _ hWm)⟩, fun k hk => ?fw⟩, ⟨⟨_, List.mem_cons_self ..⟩, fun k hk => ?fk⟩, hkn⟩ ?fq
    case fF => exact F3
    case fN => (intro p hp; exact N3 p (by
      rcases List.mem_append.mp hp with h | h
      · exact List.mem_cons_of_mem _ (List.mem_append_left _ h)
      · rcases List.mem_cons.mp h with h | h
        · exact h ▸ List.mem_cons_self ..
        · exact List.mem_cons_of_mem _ (List.mem_append_right _ h)))
    case ft => (intro p hp; rcases List.mem_cons.mp hp with rfl | hp
                · exact ⟨rfl, .inl ⟨fun h => absurd (Value.type.inj h) (by decide), fun h => absurd (Value.type.inj h) (by decide)⟩⟩
                · exact h5 p hp)
    case fw => (obtain ⟨a, b, c⟩ := hWk k hk; exact ⟨a, b, List.mem_cons_of_mem _ (h4 _ c)⟩)
    case fk => (obtain ⟨a, b, c⟩ := hkl k hk; exact ⟨a, b, List.mem_cons_of_mem _ c⟩)
    case fq => (intro h9 tk9 hx9; exact hQ _ _ hx9)
-- Ev
section
open PySem.W.X
/-- what a run by evaluation knows: the heap's start (size, known objects), the first token -/
structure EV where
  prog : Program
  w : World
  n₁ : Nat
  kt : KT
  t₀ : Nat
abbrev EvTy := PySem.Ctx → Pos → Sem Fin → BT → Nat → Nat → Option (Result × BT × Nat × Nat)
noncomputable def elook (V : EV) (T : BT) (a : Addr) : Option Obj := match Nat.blt a V.n₁ with
  | true => V.kt.get a
  | false => T.get (a - V.n₁)
/-- texts of a row of texts -/
noncomputable def strEqV (x : Str) (v : Value) : Bool := match v with
  | .str y _ => decide (y = x)
  | _ => false
noncomputable def allStr : List Value → Bool
  | [] => true
  | v :: r => match v with
    | .str _ _ => allStr r
    | _ => false
noncomputable def anyStr (x : Str) : List Value → Bool
  | [] => false
  | v :: r => match strEqV x v with
    | true => true
    | false => anyStr x r
noncomputable def orcIn (cls : String) (o : Obj) (x : Str) : Option Bool := match o with
  | ⟨.type c, _, .seq items _, _⟩ => match decide (c = cls) with
    | true => match allStr items.toList with
      | true => some (anyStr x items.toList)
      | false => none
    | false => none
  | _ => none
/-- `x in row` of texts, answered at once (whether two equal texts are one object is not asked) -/
noncomputable def orc (lk : Addr → Option Obj) (c : Code) (h : Option Value) : Option Bool := match c with
  | .call f args => match args with
    | ⟨[.ref a, .str x _], []⟩ => match h with
      | none => match f with
        | .builtin id => match decide (id = "list.__contains__") with
          | true => match lk a with
            | some o => orcIn "list" o x
            | none => none
          | false => match decide (id = "tuple.__contains__") with
            | true => match lk a with
              | some o => orcIn "tuple" o x
              | none => none
            | false => none
        | _ => none
      | some _ => none
    | _ => none
  | _ => none
noncomputable def evStep (V : EV) (den : Code → Sem Fin) (ih : EvTy) (Γ : PySem.Ctx) (p : Pos) (t : Sem Fin) (T : BT) (m i : Nat) : Option (Result × BT × Nat × Nat) := match t with
  | .pure fin => match fin with
    | .done f => some (.ok f, T, m, i)
    | .again c => match c.quiet with
      | true => ih (Γ.goto c) p (den c) T m i
      | false => none
  | .raise e => some (.error e, T, m, i)
  | .rule _ k => ih Γ p (k ()) T m i
  | .at q k => ih Γ q (k ()) T m i
  | .point _ k => ih Γ p (k ()) T m i
  | .ask k => ih Γ p (k ⟨V.prog, V.w.params⟩) T m i
  | .load a _ k => match elook V T a with
    | some o => ih Γ p (k o) T m i
    | none => none
  | .loadIfAlive a k => match elook V T a with
    | some o => ih Γ p (k (some o)) T m i
    | none => none
  | .alloc o k => match o.isFreed with
    | true => none
    | false => match (T.ins m o).get m with
      | some _ => ih Γ p (k (V.n₁ + m)) (T.ins m o) (m + 1) i
      | none => none
  | .update a _ f k => match Nat.blt a V.n₁ with
    | true => none
    | false => match T.get (a - V.n₁) with
      | some o => match (f o).isFreed with
        | true => none
        | false => ih Γ p (k ()) (T.set (a - V.n₁) f) m i
      | none => none
  | .fresh k => ih Γ p (k (V.t₀ + i)) T m (i + 1)
  | .handled own k => match own with
    | true => ih Γ p (k Γ.own) T m i
    | false => ih Γ p (k Γ.handled) T m i
  | .stack k => ih Γ p (k ((Γ.code, p) :: Γ.below)) T m i
  | .call c h _ _ k => match orc (elook V T) c h with
    | some b => ih Γ p (k (.ok (.ret (.bool b)))) T m i
    | none => match ih (Γ.enter c h p) p (den c) T m i with
      | some (r, T', m', i') => ih Γ p (k r) T' m' i'
      | none => none
  | .unsupported _ => none
  | .finish _ => none
  | .register _ _ => none
  | .choose .. => none
  | .os .. => none
  | .newGen .. => none
  | .genState .. => none
  | .resume .. => none
  | .yield .. => none
  | .fork .. => none
  | .thread _ => none
  | .await .. => none
noncomputable def ev (V : EV) (den : Code → Sem Fin) : Nat → EvTy
  | 0 => fun _ _ _ _ _ _ => none
  | n + 1 => evStep V den (ev V den n)
/-- the entry of a call: up to the body -/
abbrev EhTy := PySem.Ctx → Pos → Sem Fin → BT → Nat → Nat → Option (Code × BT × Nat × Nat)
noncomputable def ehStep (V : EV) (ih : EhTy) (Γ : PySem.Ctx) (p : Pos) (t : Sem Fin) (T : BT) (m i : Nat) : Option (Code × BT × Nat × Nat) := match t with
  | .pure fin => match fin with
    | .done _ => none
    | .again c => match c.quiet with
      | true => some (c, T, m, i)
      | false => none
  | .rule _ k => ih Γ p (k ()) T m i
  | .point _ k => ih Γ p (k ()) T m i
  | .ask k => ih Γ p (k ⟨V.prog, V.w.params⟩) T m i
  | .load a _ k => match elook V T a with
    | some o => ih Γ p (k o) T m i
    | none => none
  | .alloc o k => match o.isFreed with
    | true => none
    | false => match (T.ins m o).get m with
      | some _ => ih Γ p (k (V.n₁ + m)) (T.ins m o) (m + 1) i
      | none => none
  | .update a _ f k => match Nat.blt a V.n₁ with
    | true => none
    | false => match T.get (a - V.n₁) with
      | some o => match (f o).isFreed with
        | true => none
        | false => ih Γ p (k ()) (T.set (a - V.n₁) f) m i
      | none => none
  | .fresh k => ih Γ p (k (V.t₀ + i)) T m (i + 1)
  | .stack k => ih Γ p (k ((Γ.code, p) :: Γ.below)) T m i
  | _ => none
noncomputable def eh (V : EV) : Nat → EhTy
  | 0 => fun _ _ _ _ _ _ => none
  | n + 1 => ehStep V (eh V n)
noncomputable abbrev cx0 : PySem.Ctx := ⟨.builtin "claim.caller" {}, none, none, [], none⟩
noncomputable abbrev lawCall : Code := .call (.ref 554) ⟨[.ref 555], []⟩
end
-- EvS
section
open PySem.W.X
theorem anyStr_is {x : Str} {t : Tok} {A : Around} {s : Shared} : ∀ {l : List Value}, allStr l = true → (∀ y, y ∈ l → SeqAt.EqAt A s y (.str x t) (strEqV x y)) ∧ anyStr x l = l.any (strEqV x)
  | [], _ => ⟨fun _ h => (nomatch h), rfl⟩
  | v :: r, h => by
    unfold allStr at h
    cases v with
    | str q u =>
      obtain ⟨h1, h2⟩ := anyStr_is (A := A) (s := s) (x := x) (t := t) (l := r) h
      refine ⟨fun y hy => ?_, ?_⟩
      · rcases List.mem_cons.mp hy with rfl | hy
        · have e : strEqV x (.str q u) = (q == x) := by
            unfold strEqV
            simp only
            by_cases e : q = x
            · subst e; simp
            · simp [e]
          rw [e]
          exact SeqAt.EqAt.str_str q u x t
        · exact h1 y hy
      · unfold anyStr
        rw [List.any_cons, ← h2]
        cases strEqV x (Value.str q u) <;> rfl
    | _ => cases h
theorem orc_run {prog : Program} {w : World} {Γ : PySem.Ctx} {p : Pos} {s : Shared} {lk : Addr → Option Obj} {c : Code} {h : Option Value} {b : Bool} (hl : ∀ a o, lk a = some o → s.heap.get? a = some o) (e : orc lk c h = some b) :
    Runs (model prog w) (Γ.enter c h p) p (denote table c) [] s (.ret (.ok (.ret (.bool b)))) s := by
  have key : ∀ A, codeAny (model prog w) A c (fun r s' => r = .ok (.ret (.bool b)) ∧ s' = s) s := by
    intro A
    unfold orc at e
    split at e
    · split at e
      · split at e
        · rename_i a x t _
          split at e
          · rename_i id
            split at e
            · rename_i hid
              obtain rfl := of_decide_eq_true hid
              split at e
              · rename_i o ho
                unfold orcIn at e
                split at e
                · rename_i cl dd items n sl
                  split at e
                  · rename_i hc
                    obtain rfl := of_decide_eq_true hc
                    split at e
                    · rename_i ha
                      cases e
                      have hg := hl _ _ ho
                      exact codeAny_call_builtin F.slot_list_contains.plain F.entry_list_contains (F.slot_list_contains.check _ _ _ _ _ _ _ _ (show s.TypeIs (.ref a) "list" from ⟨_, hg, rfl⟩) (F.args_list_contains_2 _ _)
                        (SeqAt.list_containsAt a items n dd sl (.str x t) (strEqV x) prog w A (fun r s' => r = .ok (.ret (.bool (anyStr x items.toList))) ∧ s' = s) s ⟨hg, fun y hy => (anyStr_is ha).1 y (Array.mem_toList_iff.mpr hy), by rw [(anyStr_is (A := callerA) (s := s) (t := t) ha).2]; simp, rfl⟩))
                    · cases e
                  · cases e
                · cases e
              · cases e
            · split at e
              · rename_i hid
                obtain rfl := of_decide_eq_true hid
                split at e
                · rename_i o ho
                  unfold orcIn at e
                  split at e
                  · rename_i cl dd items n sl
                    split at e
                    · rename_i hc
                      obtain rfl := of_decide_eq_true hc
                      split at e
                      · rename_i ha
                        cases e
                        have hg := hl _ _ ho
                        exact codeAny_call_builtin F.slot_tuple_contains.plain F.entry_tuple_contains (F.slot_tuple_contains.check _ _ _ _ _ _ _ _ (show s.TypeIs (.ref a) "tuple" from ⟨_, hg, rfl⟩) (F.args_tuple_contains_2 _ _)
                          (SeqAt.tuple_containsAt a items n dd sl (.str x t) (strEqV x) prog w A (fun r s' => r = .ok (.ret (.bool (anyStr x items.toList))) ∧ s' = s) s ⟨hg, fun y hy => (anyStr_is ha).1 y (Array.mem_toList_iff.mpr hy), by rw [(anyStr_is (A := callerA) (s := s) (t := t) ha).2]; simp, rfl⟩))
                      · cases e
                    · cases e
                  · cases e
                · cases e
              · cases e
          · cases e
        · cases e
      · cases e
    · cases e
  have kb : PySem.Ctx.Below (Γ.enter c h p) ⟨(Γ.enter c h p).handled, frameCount (Γ.enter c h p).below, none, none, unitsOf (Γ.enter c h p).below⟩ := ⟨rfl, Nat.le_refl _, fun _ h => (nomatch h), fun _ h => (nomatch h), Nat.le_refl _⟩
  obtain ⟨r, s', hr, rfl, rfl⟩ := key _ (Γ.enter c h p) p rfl kb
  exact hr
/-- the library's view of what is known -/
def EV.xv (V : EV) (h₀ : Heap) (d : Drawn) (os : OsState) : XV := ⟨V.prog, V.w, h₀, V.n₁, V.kt, [], callerA, fun _ _ => True, d, V.t₀, os⟩
section
variable {V : EV} {h₀ : Heap} {d : Drawn} {os : OsState} {g : Array GenState}
theorem elook_at (O : (V.xv h₀ d os).Ok) {h : Heap} {T : BT} {m : Nat} (D : Rep (V.xv h₀ d os) h T m []) {a : Addr} {o : Obj} (e : elook V T a = some o) : h.get? a = some o := by
  refine Rep.look O D (a := a) ?_
  unfold elook at e
  unfold X.look
  show (match Nat.blt a V.n₁ with | true => _ | false => _) = _
  cases hq : Nat.blt a V.n₁ <;> rw [hq] at e <;> exact e
theorem ev_sound (O : (V.xv h₀ d os).Ok) : ∀ (n : Nat) (Γ : PySem.Ctx) (p : Pos) (t : Sem Fin) (T : BT) (m i : Nat) (r : Result) (T' : BT) (m' i' : Nat) (h : Heap), ev V (denote table) n Γ p t T m i = some (r, T', m', i') → Rep (V.xv h₀ d os) h T m [] →
    ∃ h', Rep (V.xv h₀ d os) h' T' m' [] ∧ Runs (model V.prog V.w) Γ p t [] ⟨h, g, d, V.t₀ + i, os⟩ (.ret r) ⟨h', g, d, V.t₀ + i', os⟩
  | 0, _, _, _, _, _, _, _, _, _, _, _, H, _ => by cases H
  | n + 1, Γ, p, t, T, m, i, r, T', m', i', h, H, D => by
    have IH := ev_sound O n
    unfold ev at H
    unfold evStep at H
    cases t with
    | pure fin =>
      cases fin with
      | done f => cases H; exact ⟨h, D, .done⟩
      | again c =>
        simp only at H
        split at H
        · rename_i hq
          obtain ⟨h', D', R⟩ := IH _ _ _ _ _ _ _ _ _ _ _ H D
          exact ⟨h', D', .again hq R⟩
        · cases H
    | raise e => cases H; exact ⟨h, D, .raise⟩
    | rule tag k => obtain ⟨h', D', R⟩ := IH _ _ _ _ _ _ _ _ _ _ _ H D; exact ⟨h', D', .rule R⟩
    | «at» q k => obtain ⟨h', D', R⟩ := IH _ _ _ _ _ _ _ _ _ _ _ H D; exact ⟨h', D', .at R⟩
    | point l k => obtain ⟨h', D', R⟩ := IH _ _ _ _ _ _ _ _ _ _ _ H D; exact ⟨h', D', .point R⟩
    | ask k => obtain ⟨h', D', R⟩ := IH _ _ _ _ _ _ _ _ _ _ _ H D; exact ⟨h', D', .ask R⟩
    | load a q k =>
      simp only at H
      split at H
      · rename_i o e
        obtain ⟨h', D', R⟩ := IH _ _ _ _ _ _ _ _ _ _ _ H D
        exact ⟨h', D', .load (elook_at O D e) R⟩
      · cases H
    | loadIfAlive a k =>
      simp only at H
      split at H
      · rename_i o e
        obtain ⟨h', D', R⟩ := IH _ _ _ _ _ _ _ _ _ _ _ H D
        exact ⟨h', D', .loadIfAlive (by rw [show (⟨h, g, d, V.t₀ + i, os⟩ : Shared).heap.get? a = some o from elook_at O D e]; exact R)⟩
      · cases H
    | alloc o k =>
      simp only at H
      split at H
      · cases H
      · rename_i hf
        split at H
        · rename_i o' e
          obtain ⟨h', D', R⟩ := IH _ _ _ _ _ _ _ _ _ _ _ H (D.alloc O hf (by rw [e]; rfl))
          refine ⟨h', D', .alloc ?_⟩
          have es : h.objs.size = V.n₁ + m := D.size
          show Runs _ _ _ (k h.objs.size) _ _ _ _
          rw [es]; exact R
        · cases H
    | update a q f k =>
      simp only at H
      split at H
      · cases H
      · rename_i hb
        split at H
        · rename_i o e
          split at H
          · cases H
          · rename_i hf
            obtain ⟨h', D', R⟩ := IH _ _ _ _ _ _ _ _ _ _ _ H (D.update O (blt_false hb) e hf)
            have ho : h.get? (V.n₁ + (a - V.n₁)) = some o := (D.own _ _ e).2
            rw [Nat.add_sub_cancel' (blt_false hb)] at ho
            exact ⟨h', D', .update (by show (h.get? a).isSome = true; rw [ho]; rfl) R⟩
        · cases H
    | fresh k => obtain ⟨h', D', R⟩ := IH _ _ _ _ _ _ _ _ _ _ _ H D; exact ⟨h', D', .fresh R⟩
    | handled own k =>
      cases own with
      | true => obtain ⟨h', D', R⟩ := IH _ _ _ _ _ _ _ _ _ _ _ H D; exact ⟨h', D', .handled R⟩
      | false => obtain ⟨h', D', R⟩ := IH _ _ _ _ _ _ _ _ _ _ _ H D; exact ⟨h', D', .handled R⟩
    | stack k => obtain ⟨h', D', R⟩ := IH _ _ _ _ _ _ _ _ _ _ _ H D; exact ⟨h', D', .stack R⟩
    | call c hh gg l k =>
      simp only at H
      split at H
      · rename_i b e
        obtain ⟨h', D', R⟩ := IH _ _ _ _ _ _ _ _ _ _ _ H D
        exact ⟨h', D', .call (orc_run (fun a o e => elook_at O D e) e) R⟩
      · split at H
        · rename_i r₁ T₁ m₁ i₁ e
          obtain ⟨h₁, D₁, R₁⟩ := IH _ _ _ _ _ _ _ _ _ _ _ e D
          obtain ⟨h', D', R⟩ := IH _ _ _ _ _ _ _ _ _ _ _ H D₁
          exact ⟨h', D', .call R₁ R⟩
        · cases H
    | _ => cases H
theorem eh_sound (O : (V.xv h₀ d os).Ok) {R : Result → Shared → Prop} : ∀ (n : Nat) (Γ : PySem.Ctx) (p : Pos) (t : Sem Fin) (T : BT) (m i : Nat) (c : Code) (T' : BT) (m' i' : Nat) (h : Heap), eh V n Γ p t T m i = some (c, T', m', i') → Rep (V.xv h₀ d os) h T m [] →
    (∀ h', Rep (V.xv h₀ d os) h' T' m' [] → ∃ r s', Runs (model V.prog V.w) (Γ.goto c) p (denote table c) [] ⟨h', g, d, V.t₀ + i', os⟩ (.ret r) s' ∧ R r s') →
    ∃ r s', Runs (model V.prog V.w) Γ p t [] ⟨h, g, d, V.t₀ + i, os⟩ (.ret r) s' ∧ R r s'
  | 0, _, _, _, _, _, _, _, _, _, _, _, H, _, _ => by cases H
  | n + 1, Γ, p, t, T, m, i, c, T', m', i', h, H, D, K => by
    have IH := eh_sound O (R := R) n
    unfold eh at H
    unfold ehStep at H
    cases t with
    | pure fin =>
      cases fin with
      | done f => cases H
      | again c =>
        simp only at H
        split at H
        · rename_i hq
          cases H
          obtain ⟨r, s', R, hR⟩ := K h D
          exact ⟨r, s', .again hq R, hR⟩
        · cases H
    | rule tag k => obtain ⟨r, s', R, hR⟩ := IH _ _ _ _ _ _ _ _ _ _ _ H D K; exact ⟨r, s', .rule R, hR⟩
    | point l k => obtain ⟨r, s', R, hR⟩ := IH _ _ _ _ _ _ _ _ _ _ _ H D K; exact ⟨r, s', .point R, hR⟩
    | ask k => obtain ⟨r, s', R, hR⟩ := IH _ _ _ _ _ _ _ _ _ _ _ H D K; exact ⟨r, s', .ask R, hR⟩
    | load a q k =>
      simp only at H
      split at H
      · rename_i o e
        obtain ⟨r, s', R, hR⟩ := IH _ _ _ _ _ _ _ _ _ _ _ H D K
        exact ⟨r, s', .load (elook_at O D e) R, hR⟩
      · cases H
    | alloc o k =>
      simp only at H
      split at H
      · cases H
      · rename_i hf
        split at H
        · rename_i o' e
          obtain ⟨r, s', R, hR⟩ := IH _ _ _ _ _ _ _ _ _ _ _ H (D.alloc O hf (by rw [e]; rfl)) K
          refine ⟨r, s', .alloc ?_, hR⟩
          have es : h.objs.size = V.n₁ + m := D.size
          show Runs _ _ _ (k h.objs.size) _ _ _ _
          rw [es]; exact R
        · cases H
    | update a q f k =>
      simp only at H
      split at H
      · cases H
      · rename_i hb
        split at H
        · rename_i o e
          split at H
          · cases H
          · rename_i hf
            obtain ⟨r, s', R, hR⟩ := IH _ _ _ _ _ _ _ _ _ _ _ H (D.update O (blt_false hb) e hf) K
            have ho : h.get? (V.n₁ + (a - V.n₁)) = some o := (D.own _ _ e).2
            rw [Nat.add_sub_cancel' (blt_false hb)] at ho
            exact ⟨r, s', .update (by show (h.get? a).isSome = true; rw [ho]; rfl) R, hR⟩
        · cases H
    | fresh k => obtain ⟨r, s', R, hR⟩ := IH _ _ _ _ _ _ _ _ _ _ _ H D K; exact ⟨r, s', .fresh R, hR⟩
    | stack k => obtain ⟨r, s', R, hR⟩ := IH _ _ _ _ _ _ _ _ _ _ _ H D K; exact ⟨r, s', .stack R, hR⟩
    | _ => cases H
end
end
-- Hx
section
open PySem.W.X
abbrev hd.row : RowW := OpenRow.toRowW PySem.Challenge.rw_pc0145_01.row
noncomputable abbrev hd.tree (vs : List Value) : Sem Fin := do match ← nsGet mainNs hd.row.name with
      | some f => do ret (← PySem.call f vs)
      | none => unsupported "claim.caller:no-such-global"
/-- what the call must show, at the caller's own thread -/
abbrev RunAt : Prop := ∀ (w : World) (s₀ s₁ : Shared) (mg mb : Str → Option Value), Ground hd.view_39 hd.loose hd.row.records (XL hd.view_39 []) w s₀ mg mb s₁.heap → obsZ hd.addrs s₀ = valZ hd.heap_39 555 982 w → ∀ (args : List WData) (vs : List Value) (as : List Addr),
  hd.row.claim.pre args = true → WData.layableAll args = true → Laid hd.row.records w s₀ s₁ args vs as → (∀ a ∈ as, (a == sysModules) = false) →
  Sem.wp (model hd.prog w) cx0 (hd.tree vs) (Sem.finPost (model hd.prog w) cx0 fun r s' => GoodWG hd.row.claim (classAt s₀.heap) (ExcName.means s₀.heap) args s₁ r s')
    (fun e _ s' => GoodWG hd.row.claim (classAt s₀.heap) (ExcName.means s₀.heap) args s₁ (.error e) s') default s₁
set_option maxRecDepth 100000 in
theorem hd.go (left : LeftO hd.prog hd.view_39 hd.loose hd.xt (obsZ hd.addrs) (valZ hd.heap_39 555 982) 7876) (walk : RunAt) : PySem.Challenge.rw_pc0145_01.Holds := by
  refine holds_law hd.said fun said => ?_
  have hw : hd.row.promised := by w_witness2
  have hX : ∀ s, hd.xt s = true → (XL hd.view_39 []) (s.heap.nsMap mainGlobals) s.heap := fun s e => xl_of s (Bool.and_eq_true_iff.mp e).1
  have hch : chainsOk hd.view_39 = true := by decide +kernel
  have hfr : frees hd.row = true := by decide +kernel
  obtain ⟨hsame, hu, ha, hap, hm⟩ := frees_parts hfr
  have hwi : hd.row.claim.within = [] := rfl
  refine ⟨said, hw, ⟨⟨rfl, rfl, rfl, rfl, rfl, by decide +kernel⟩, by decide +kernel, by kernel_rfl⟩, hw.witness, fun w => ⟨(left.behind hX hch w).1, fun s' hs' => ?_⟩⟩
  obtain ⟨s₀, hf, hg0, s, hT, hz, hgens, hg, G00, y⟩ := (left.behind (XP := fun mg h => XL hd.view_39 [] mg h ∧ RecFacts hd.row.records h) (fun s hs => ⟨hX s hs, recFacts_of (Bool.and_eq_true_iff.mp hs).2⟩) hch w).2 s' hs'
  have G0 : Ground hd.view_39 hd.loose [] (XL hd.view_39 []) w s (s.heap.nsMap mainGlobals) (s.heap.nsMap builtinsNs) s.heap := ⟨G00.T, G00.B, G00.D, G00.TE, G00.TD, G00.W, G00.X.1, G00.cls, G00.has, G00.apart, G00.once, G00.K⟩
  have RF := G00.X.2
  refine ⟨s₀, hf, hg0, s, hT, fun n hn => ?_, RF.1, RF.2.1, fun args hpre hlay ord hord => ?_⟩
  · obtain rfl : n = hd.row.name := by split at hn <;> simp_all
    exact pinned_of_view (kwd := []) (d := hd.lawD) hg G0 (by kernel_rfl) (by kernel_rfl) (by kernel_rfl)
  have hgens : s.gens = #[] := Array.eq_empty_of_size_eq_zero (beq_iff_eq.mp hgens)
  have G : Ground hd.view_39 hd.loose hd.row.records (XL hd.view_39 []) w s _ _ s.heap := RF.ground G0
  obtain ⟨⟨vs, s₁⟩, hlaid⟩ := Option.isSome_iff_exists.mp (layAllW_isSome (P := w.params) (ord := ord) G.has args hd.row.args s (pre_splitW hpre).1)
  have keeps := layAllW_keeps _ _ _ hlaid
  have hal := layAllW_rest _ _ _ hlaid
  obtain ⟨as, hrd, hin, hold⟩ := reads_layAllW hord _ _ _ hlaid hlay s₁.heap (fun _ _ e => e)
  have L : Laid hd.row.records w s s₁ args vs as := ⟨⟨ord, hord, hlaid⟩, hrd, hin, hold, keeps, hal.1.trans hgens, hal.2.2.1⟩
  have h := walk w s s₁ _ _ (G.keeps XL.keeps keeps) y args vs as hpre hlay L (L.low G.low)
  have hi := ident_freeW (r := hd.row) hu ha hap
  obtain ⟨n, r, s₂, s₃, hs, hn, hfo, hR, -⟩ := wp_halts_full (M := model hd.prog w) (c := .builtin "claim.caller" {})
    (R := fun r s' => GoodWG hd.row.claim (classAt s.heap) (ExcName.means s.heap) args s₁ r s' ∧ leftWithCleanup s'.gens = false)
    (Shared.asleep_of_life hal.2.2.2 hz)
    (Sem.wp_mono _ _ _ (fun fin p' s' h' => finPost_mono (fun r s' (g : GoodWG _ _ _ _ _ _ _) => ⟨⟨g, leftWithCleanup_false_of_bare g.2.2.2⟩, leftWithCleanup_false_of_bare g.2.2.2⟩) h') (fun e p' s' (g : GoodWG _ _ _ _ _ _ _) => ⟨⟨g, leftWithCleanup_false_of_bare g.2.2.2⟩, leftWithCleanup_false_of_bare g.2.2.2⟩) _ _ h)
  have z := hR.laid (c := hd.row.claim) hsame hwi hi L
  obtain ⟨eh, _, _, eo, _⟩ := Shared.forget_eq hfo
  have hcase := z.1.congr eh
  have hlife : s₃.heap.life = s.heap.life := (runN_life _ _ _ hn).trans hal.2.2.2
  refine ⟨vs, s₁, hlaid, n, _, s₃, hs, ?_, (fun _ i x hx => by rw [hgens] at hx; simp at hx), fun q => ?_, by rw [hlife], Shared.rest_eq (eo.trans z.2.1)⟩
  · rcases hcase with ⟨v, rfl, d1, d2, d3, d4, d5⟩ | ⟨e, ob, cls, rfl, d1, d2, d3, d4, d5⟩
    · exact .inl ⟨v, rfl, d1, d2, d3, fun b o y _ => d4 b o y, d5⟩
    · exact .inr ⟨e, ob, cls, rfl, d1, d2, d3, d4, fun b o y _ => d5 b o y⟩
  · rw [eh]
    exact ⟨namesKept_of hT hg _ keeps hR.2.1.old, noTable rfl q⟩
end
-- Ev1
section
open PySem.W.X
noncomputable abbrev cellO (v : Option Value) : Obj := ⟨.type "cell", none, .cell v, #[]⟩
noncomputable abbrev frO (P : Params) (t : Nat) : Obj := ⟨.type "frame", none, .dict #[⟨PyData.keyHash P (Str.ofString "script"), .str (Str.ofString "script") t, .ref 555⟩] 1, #[]⟩
noncomputable def T4 (P : Params) (t : Nat) : BT := .node (frO P t) (.node (cellO none) (.node (cellO none) .nil .nil) .nil) (.node (cellO none) .nil .nil)
noncomputable abbrev evV (w : World) (P : Params) (t : Nat) : EV := ⟨hd.prog, w, 556, KT.of (hd.heap_39 P), t⟩
noncomputable abbrev cxC (p : Pos) : PySem.Ctx := cx0.enter lawCall none p
noncomputable abbrev cxF (p : Pos) : PySem.Ctx := (cxC p).goto (.func lawBody (lawEnv 556))
noncomputable abbrev stmt1 : Sem Fin := (exec (lawBody.headD (.Pass default)) (lawEnv 556)).bind fun f => .pure (.done f)
def fieldNames : List String := ["", "category", "size", "picture", "usage", "sign", "is_separate", "is_justified", "is_blank_zero", "digits", "scale", "is_signed"]
noncomputable def hq (P : Params) (ks vs : List Nat) : HK := ⟨fun j => PyData.keyHash P (Str.ofString (fieldNames.getD j "")), fun j => ks.getD j 0, fun j => vs.getD j 0⟩
noncomputable abbrev hqS (P : Params) (t : Nat) : HK := hq P [0, t + 471, t + 473, t + 475, t + 477, t + 479, t + 481, t + 483, t + 485, t + 488, t + 491, t + 493] [0, t + 370, t + 458, 0, 409, 410, 0, 0, 0, t + 379, t + 385, 0]
noncomputable abbrev hqX (P : Params) (t : Nat) : HK := hq P [0, t + 681, t + 683, t + 685, t + 687, t + 689, t + 691, t + 693, t + 695, t + 698, t + 701, t + 703] [0, t + 599, t + 668, 0, 409, 410, 0, 0, 0, t + 696, t + 699, 0]
set_option maxRecDepth 1000000 in
theorem ev_entry : ∀ (w : World) (p : Pos), (fun (t : Nat) => eh (evV w w.params t) 300 (cxC p) p (denote treeTable lawCall) .nil 0 0) = fun t => some (.func lawBody (lawEnv 556), T4 w.params t, 4, 1) := by
  intro w p
  rw [PySem.W.Fast.te11892475500146522536, PySem.W.Fast.te14364793385576792824]
  kernel_rfl
noncomputable abbrev evObs (w : World) (P : Params) (p : Pos) (t : Nat) : Option (Result × List (Option Obj)) := (ev (evV w P t) (denote treeTable) 3000 (cxF p) p stmt1 (T4 P t) 4 1).map fun r => (r.1, [r.2.1.get 0, r.2.1.get 1, r.2.1.get 2, r.2.1.get 3, r.2.1.get 157, r.2.1.get 158, r.2.1.get 251, r.2.1.get 252])
noncomputable abbrev evLit (P : Params) (t : Nat) : Option (Result × List (Option Obj)) := some (.ok .next, [some (frO P t), some (cellO (some (.ref 714))), some (cellO (some (.ref 808))), some (cellO none), some (dictOf (numEs (hqS P t) (.ref 705)) 11), some (instObj 111 713), some (dictOf (txtEs (hqX P t) (.ref 799)) 11), some (instObj 111 807)])
abbrev wF (w : World) (b c : Bool) : World := (w.withFollow "comprehension-iter-twice" b).withFollow "special-get-raises" c
set_option maxRecDepth 1000000 in
theorem ev_ff : ∀ (w : World) (p : Pos), (fun (t : Nat) => evObs (wF w false false) w.params p t) = fun t => evLit w.params t := by
  intro w p
  unfold evObs
  rw [PySem.W.Fast.te11892475500146522536, PySem.W.Fast.te14364793385576792824]
  kernel_rfl
set_option maxRecDepth 1000000 in
theorem ev_ft : ∀ (w : World) (p : Pos), (fun (t : Nat) => evObs (wF w false true) w.params p t) = fun t => evLit w.params t := by
  intro w p
  unfold evObs
  rw [PySem.W.Fast.te11892475500146522536, PySem.W.Fast.te14364793385576792824]
  kernel_rfl
set_option maxRecDepth 1000000 in
theorem ev_tf : ∀ (w : World) (p : Pos), (fun (t : Nat) => evObs (wF w true false) w.params p t) = fun t => evLit w.params t := by
  intro w p
  unfold evObs
  rw [PySem.W.Fast.te11892475500146522536, PySem.W.Fast.te14364793385576792824]
  kernel_rfl
set_option maxRecDepth 1000000 in
theorem ev_tt : ∀ (w : World) (p : Pos), (fun (t : Nat) => evObs (wF w true true) w.params p t) = fun t => evLit w.params t := by
  intro w p
  unfold evObs
  rw [PySem.W.Fast.te11892475500146522536, PySem.W.Fast.te14364793385576792824]
  kernel_rfl
end
-- Lrun
section
open PySem.W.X
theorem ev_all (w : World) (p : Pos) (t : Nat) : evObs w w.params p t = evLit w.params t := by
  have h : wF w (w.params.followText "comprehension-iter-twice") (w.params.followText "special-get-raises") = w := by
    unfold wF
    rw [World.withFollow_self, World.withFollow_self]
  have k : ∀ b c, evObs (wF w b c) w.params p t = evLit w.params t := by
    intro b c
    cases b <;> cases c
    · exact congrFun (ev_ff w p) t
    · exact congrFun (ev_ft w p) t
    · exact congrFun (ev_tf w p) t
    · exact congrFun (ev_tt w p) t
  have := k (w.params.followText "comprehension-iter-twice") (w.params.followText "special-get-raises")
  rw [h] at this
  exact this
/-- a wrap, so that nobody unfolds the tree -/
structure KTIn (h : Heap) (t : KT) : Prop where
  holds : KT.Holds h 1 0 t
theorem z_all {K : Params → Frag} {as : List Addr} (e : ∀ P, as = (K P).map (·.1)) {n t : Nat} {w : World} {s₀ s₁ : Shared} (y : obsZ as s₀ = valZ K n t w) (k : ∀ b o, s₀.heap.get? b = some o → s₁.heap.get? b = some o) :
    (K w.params).In s₁.heap ∧ KTIn s₁.heap (KT.of (K w.params)) ∧ s₀.heap.objs.size = n :=
  let ⟨ZA, ZI, ZN, _⟩ := z_facts e y
  ⟨InK.keeps w _ _ ZI k, ⟨KT.Holds.keeps k (holds_of ZA)⟩, ZN⟩
theorem xv_ok (prog : Program) (w : World) (n₁ : Nat) (kt : KT) (t₀ : Nat) {h : Heap} {d : Drawn} {os : OsState} (hs : h.objs.size = n₁) (hk : KTIn h kt) : ((EV.mk prog w n₁ kt t₀).xv h d os).Ok := ⟨hs, hk.1, fun _ _ e => nomatch e⟩
theorem law_split : lawBody = lawBody.headD (.Pass default) :: lawBody.drop 1 := by kernel_rfl
theorem strkeys_one {k : Int} {x : Str} {t : Nat} {v : Value} : StrKeys #[(⟨k, .str x t, v⟩ : DictEntry)] := by
  intro e he
  simp only [List.mem_toArray, List.mem_singleton] at he
  exact ⟨x, t, he ▸ rfl⟩
theorem nsfind_one {k : Int} {x : Str} {t : Nat} {v : Value} (name : Str) : nsFind #[(⟨k, .str x t, v⟩ : DictEntry)] name = if name = x then some v else none := by
  unfold nsFind findBy Value.isStr
  by_cases e : name = x
  · subst e; simp
  · simp [e, Ne.symm e]
set_option linter.constructorNameAsVariable false in
set_option maxRecDepth 100000 in
theorem law_at {w : World} {s : Shared} {mean : ExcName → Option Value} {mg mb : Str → Option Value} {vs : List Value} {ns : List Int} {R : Result → Shared → Prop} (p : Pos)
    (KX : (hd.heap_39 w.params).In s.heap) (KH : KTIn s.heap (KT.of (hd.heap_39 w.params))) (hsize : s.heap.objs.size = 556) (T : Top Mine.hd.view_39 LL mean mg mb s.heap) (hL : s.heap.IsList 555 vs.toArray) (hI : IntsAre vs ns) (hn : ns.length ≤ 63)
    (hQ : ∀ h' tk', Ext s.heap h' → R (.ok (.ret (.bool true))) { s with heap := h', toks := tk' }) : wpCode (model hd.prog w) (cxC p) R p s := by
  obtain ⟨h, g, d, t, os⟩ := s
  have O := xv_ok hd.prog w 556 (KT.of (hd.heap_39 w.params)) t (h := h) (d := d) (os := os) hsize KH
  have e1 := congrFun (ev_entry w p) t
  simp only [← table_eq_tree] at e1
  refine eh_sound O (R := R) 300 (cxC p) p (denote table lawCall) .nil 0 0 _ _ _ _ h e1 (Rep.start O) (fun h4 D4 => ?_)
  refine (Sem.wp_iff_runs _ _ _ R p _).mp ?_
  show Sem.wp (model hd.prog w) (cxF p) (point >>= fun _ => (execs lawBody (lawEnv 556)).onRaise (leaving (lawEnv 556)) >>= fun f => match f with | .ret v => ret v | _ => ret .none) (Sem.finPost (model hd.prog w) (cxF p) R) (fun e _ s' => R (.error e) s') p ⟨h4, g, d, t + 1, os⟩
  rw [Sem.wp_bind']
  show Sem.wp (model hd.prog w) (cxF p) ((execs lawBody (lawEnv 556)).onRaise (leaving (lawEnv 556)) >>= fun f => match f with | .ret v => ret v | _ => ret .none) (Sem.finPost (model hd.prog w) (cxF p) R) (fun e _ s' => R (.error e) s') p ⟨h4, g, d, t + 1, os⟩
  rw [Sem.wp_bind', Sem.wp_onRaise, show execs lawBody (lawEnv 556) = (exec (lawBody.headD (.Pass default)) (lawEnv 556) >>= fun f => match f with | .next => execs (lawBody.drop 1) (lawEnv 556) | f => pure f) from (congrArg (fun b => execs b (lawEnv 556)) law_split).trans rfl, Sem.wp_bind']
  have e2 := ev_all w p t
  obtain ⟨⟨r, T', m', i'⟩, er, eo⟩ := Option.map_eq_some_iff.mp e2
  simp only [Prod.mk.injEq, List.cons.injEq, and_true] at eo
  obtain ⟨rfl, g0, g1, g2, g3, g4, g5, g6, g7⟩ := eo
  rw [← table_eq_tree] at er
  obtain ⟨h5, D5, R5⟩ := ev_sound O (g := g) 3000 (cxF p) p stmt1 (T4 w.params t) 4 1 _ T' m' i' h4 er D4
  have q : Sem.wp (model hd.prog w) (cxF p) stmt1 (Sem.finPost (model hd.prog w) (cxF p) (fun r s' => r = .ok .next ∧ s' = ⟨h5, g, d, t + i', os⟩)) (fun e _ s' => (.error e : Result) = .ok .next ∧ s' = ⟨h5, g, d, t + i', os⟩) p ⟨h4, g, d, t + 1, os⟩ :=
    (Sem.wp_iff_runs _ _ _ (fun r s' => r = .ok .next ∧ s' = ⟨h5, g, d, t + i', os⟩) p _).mpr ⟨_, _, R5, rfl, rfl⟩
  have q' : Sem.wp (model hd.prog w) (cxF p) (exec (lawBody.headD (.Pass default)) (lawEnv 556) >>= fun f => Sem.pure (.done f)) (Sem.finPost (model hd.prog w) (cxF p) (fun r s' => r = .ok .next ∧ s' = ⟨h5, g, d, t + i', os⟩)) (fun e _ s' => (.error e : Result) = .ok .next ∧ s' = ⟨h5, g, d, t + i', os⟩) p ⟨h4, g, d, t + 1, os⟩ := q
  rw [Sem.wp_bind'] at q'
  refine Sem.wp_mono _ _ _ (fun f p' s' hf => ?_) (fun e p' s' he => nomatch he.1) p _ q'
  obtain ⟨e, rfl⟩ : (.ok f : Result) = .ok .next ∧ s' = ⟨h5, g, d, t + i', os⟩ := hf
  cases e
  have own : ∀ i o, T'.get i = some o → h5.get? (556 + i) = some o := fun i o e => (D5.own i o e).2
  have none_ : ∀ i, h.get? (556 + i) = none := fun i => Heap.get?_none_of_le (by rw [show h.objs.size = 556 from hsize]; exact Nat.le_add_right ..)
  have hIn : PySem.Ctx.In (cxF p) (Around.deeper ⟨none, 1 + claimMargin, some [], some [], 4⟩ (lawEnv 556)) := (((caller_in.enter lawCall none p (by intro x; cases x)).goto (.func lawBody (lawEnv 556)))).in
  have key := lawB1 (w := w) (mean := mean) (mg := mg) (mb := mb) (s := ⟨h, g, d, t, os⟩) (dp := 1 + claimMargin) (un := 4) (outer := []) (gd := some []) (sc := 555) (vs := vs) (ns := ns) (h := h5) (tk := t + i')
    (Q := fun f s' => ∀ p'', Sem.wp (model hd.prog w) (cxF p) (match f with | .ret v => ret v | _ => ret .none) (Sem.finPost (model hd.prog w) (cxF p) R) (fun e _ s' => R (.error e) s') p'' s')
    (tx := 808) (txd := 807) (q1 := hqX w.params t) (v1 := .ref 799) (n1 := 11) (sh := 714) (shd := 713) (q2 := hqS w.params t) (v2 := .ref 705) (n2 := 11) (oc := cellO none) (ob := cellO (some (.ref 808))) (oa := cellO (some (.ref 714)))
    KX T (by decide +kernel) (by decide +kernel) (below_caller _) hL hI hn ?_ ?_ rfl rfl rfl (fun h' tk' hx p'' => hQ h' tk' hx)
  rw [show (⟨h, g, d, t, os⟩ : Shared).heap.objs.size = 556 from hsize] at key
  · show Sem.wp (model hd.prog w) (cxF p) (execs (lawBody.drop 1) (lawEnv 556)) _ _ p' ⟨h5, g, d, t + i', os⟩
    exact Sem.wp_mono (model hd.prog w) (cxF p) _ (fun f p'' s' hf => hf p'') (fun e _ _ (he : False) => he.elim) p' _ (key (cxF p) p' hIn)
  · rw [show (⟨h, g, d, t, os⟩ : Shared).heap.objs.size = 556 from hsize]
    exact ⟨⟨_, _, _, own 0 _ g0, rfl, strkeys_one, nsfind_one⟩, fun b o e => D5.keep b o e rfl, Nat.le_of_eq hsize⟩
  · rw [show (⟨h, g, d, t, os⟩ : Shared).heap.objs.size = 556 from hsize]
    intro q hq
    simp only [led, base7, List.append_nil, List.mem_cons, List.not_mem_nil, or_false] at hq
    rcases hq with rfl | rfl | rfl | rfl | rfl | rfl | rfl
    · exact ⟨own 251 _ g6, (by decide : (807 : Nat) ≠ 556), none_ 251⟩
    · exact ⟨own 252 _ g7, (by decide : (808 : Nat) ≠ 556), none_ 252⟩
    · exact ⟨own 157 _ g4, (by decide : (713 : Nat) ≠ 556), none_ 157⟩
    · exact ⟨own 158 _ g5, (by decide : (714 : Nat) ≠ 556), none_ 158⟩
    · exact ⟨own 3 _ g3, (by decide : (559 : Nat) ≠ 556), none_ 3⟩
    · exact ⟨own 2 _ g2, (by decide : (558 : Nat) ≠ 556), none_ 2⟩
    · exact ⟨own 1 _ g1, (by decide : (557 : Nat) ≠ 556), none_ 1⟩
theorem run_tree {w : World} {s : Shared} {mean : ExcName → Option Value} {mg mb : Str → Option Value} {vs : List Value} {ns : List Int} {R : Result → Shared → Prop}
    (KX : (hd.heap_39 w.params).In s.heap) (KH : KTIn s.heap (KT.of (hd.heap_39 w.params))) (hsize : s.heap.objs.size = 556) (T : Top Mine.hd.view_39 LL mean mg mb s.heap) (hL : s.heap.IsList 555 vs.toArray) (hI : IntsAre vs ns) (hn : ns.length ≤ 63) (hm : mg hd.row.name = some (.ref 554))
    (hQ : ∀ h' tk', Ext s.heap h' → R (.ok (.ret (.bool true))) { s with heap := h', toks := tk' }) : Sem.wp (model hd.prog w) cx0 (hd.tree [.ref 555]) (Sem.finPost (model hd.prog w) cx0 R) (fun e _ s' => R (.error e) s') default s := by
  show Sem.wp (model hd.prog w) cx0 (nsGet mainNs hd.row.name >>= fun r => match r with | some f => (PySem.call f [.ref 555] >>= fun v => ret v) | none => unsupported "claim.caller:no-such-global") (Sem.finPost (model hd.prog w) cx0 R) (fun e _ s' => R (.error e) s') default s
  rw [Sem.wp_bind']
  refine Sem.wp_mono _ _ _ (fun x p' s' (hx : ∀ p, Sem.wp (model hd.prog w) cx0 (match x with | some f => (PySem.call f [.ref 555] >>= fun v => ret v) | none => unsupported "claim.caller:no-such-global") (Sem.finPost (model hd.prog w) cx0 R) (fun e _ s' => R (.error e) s') p s') => hx p') (fun _ _ _ h => h) default s
    ((wpAny_nsGet (M := model hd.prog w) (A := callerA) (E := fun e s' => R (.error e) s') T.g ?_) cx0 default caller_in)
  rw [hm]
  intro p
  show Sem.wp (model hd.prog w) cx0 (PySem.call (.ref 554) [.ref 555] >>= fun v => ret v) _ _ p s
  rw [Sem.wp_bind']
  show Sem.wp (model hd.prog w) cx0 (runValue lawCall) _ _ p s
  rw [Sem.wp_runValue]
  exact law_at p KX KH hsize T hL hI hn fun h' tk' hx => hQ h' tk' hx
set_option linter.constructorNameAsVariable false in
set_option maxRecDepth 100000 in
set_option maxHeartbeats 400000 in
theorem runAt : RunAt := by
  intro w s₀ s₁ mg mb G y args vs as hpre hlay L hlo
  obtain ⟨KX, KH, ZN⟩ := z_all (K := hd.heap_39) (as := hd.addrs) (n := 555) (t := 982) (w := w) (s₀ := s₀) (s₁ := s₁) hd.addrs_of y L.keeps
  have hg := L.gens
  have hrd := L.reads
  have hwl := L.well
  have X := (Ground.X G).1
  have V := (Ground.X G).2
  refine Ground.open G ?_
  intro T B D TE TW
  wrow_args hpre hlay hrd hwl hlo
  obtain ⟨hat, hsize⟩ := script_at L
  rw [ZN] at hat hsize
  subst hat
  have hm : mg hd.row.name = some (.ref 554) := mg_of (K := hd.heap_39 w.params) KX T.g (by kernel_rfl)
  (rename Heap.IsList _ _ _ => hL9)
  (rename IntsAre _ _ => hI9)
  (rename (¬ _ < _) => hn9)
  refine run_tree (R := fun r s' => GoodWG hd.row.claim (classAt s₀.heap) (ExcName.means s₀.heap) _ s₁ r s') KX KH hsize T hL9 hI9 (by omega) hm ?_
  intro h' tk' hx
  refine ⟨.inl ⟨_, _, [], rfl, fun _ => rfl, ReadsW.bool true, ?post, fun _ => ⟨List.nodup_nil, fun _ hm => (nomatch hm)⟩⟩, ?old, rfl, .of_eq hg⟩
  case post => first | rfl | wrow_post
  case old => exact ((OldK.refl _).step_keeps hx)
end
end Mine
theorem PySem.Challenge.cw_pc0145_01_holds : PySem.Challenge.rw_pc0145_01.Holds :=
  Mine.hd.go Mine.hd.left Mine.runAt
