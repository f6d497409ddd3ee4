import PyProof.Rows.All
import Wide.All
import OpenK.AllK
import Wide.FinOn
import HandS.Head3
import HandS.ForMost
import HandS.StrMore
import HandS.FStr
import HandS.TupAny
import HandS.TupLe
import HandS.Gcd
import HandS.IsInst
import HandS.DictComp
import HandS.Deep
import HandS.Zip
import HandS.Conv
import HandS.Lambda
import HandS.Flow
import HandS.TryOnly
import KE.SortData
import KE.DataCmp
import KE.KeyNested
import KE.KDictDisplayH
import HandS.TupSets
import KE.GoesEnum
import HandS.WideBits
import PyProof.SeqIndex
import HandS.Codes
import HandS.HeadWalk
import HandS.SetBool
import HandS.Strs
import HandS.HeadHook4
import HandS.Star
import HandS.ExcOwn
import PySem.Challenge.RW_wholefaces_k76_whole_names_a_to_c
set_option Elab.async false
set_option linter.all false
set_option maxRecDepth 100000
/-! text TopA -/
noncomputable section
namespace K76
open PySem
abbrev lawP : Program := PySem.Challenge.pw_wholefaces_k76_whole_names_a_to_c
/-! ### the top's run, cut in two -/
section
def openF (st : Program → PySem.W.SharedT → Thread → Option (PySem.W.SharedT × Thread)) (fence : Program → Shared → Option Shared) (M : Nat) (p : Program) : Option (Shared × PySem.W.SharedT) := match HandSHeadRun.impF (st (PySem.W.opening p)) M (HandSHeadRun.startT (PySem.W.opening p)) (start (PySem.W.opening p)).2 with
  | some s => (match fence p s.abs with
    | some s0 => (match s0.heap.isNs mainGlobals && s0.gens.size == 0 with
      | true => (match HandSHeadRun.treeOf s0 with
        | some x => some (s0, x)
        | none => none)
      | false => none)
    | none => none)
  | none => none
def annOf (s : Shared) : Option Value := s.heap.nsMap mainGlobals "__annotations__"
end
/-! ### the states amid the top and behind it -/
namespace Amid
def steps0 : Nat := 4942
def steps1 : Nat := 2595
def left : Nat := 2830
end Amid
abbrev stQ (w : World) (q : Program) := HandSHeadRun.stepQ (HandSHeadRun.denQ HandSHeadRun.tabQ) q w
abbrev opened (w : World) : Option (Shared × PySem.W.SharedT) := openF (fun q => stQ w q) HandSHeadRun.fenceQ (Amid.steps0 + (Amid.steps1 + Amid.left)) lawP
namespace Amid
/-- an object of the opening's own that is never looked into -/
def ob20 (w : World) : Obj := match opened w with
  | some r => (match r.2.tree.get 20 with
    | some o => o
    | none => default)
  | none => default
abbrev N : Value := .none
abbrev I (i : Int) : Value := .int i 0
abbrev J (i : Int) (t : Tok) : Value := .int i t
abbrev S (s : String) (t : Tok) : Value := .str (Str.ofString s) t
abbrev T (s : String) : Value := .type s
abbrev B (s : String) : Value := .builtin s
abbrev R (a : Addr) : Value := .ref a
abbrev L {α : Type} (l : List α) : Array α := l.toArray
abbrev E (P : Params) (k : String) (t : Tok) (v : Value) : DictEntry := ⟨PyData.keyHash P (Str.ofString k), .str (Str.ofString k) t, v⟩
abbrev ob (c : Value) (d : Data) : Obj := ⟨c, none, d, #[]⟩
abbrev tu (l : List Value) : Obj := ⟨.type "tuple", none, .seq l.toArray 0, #[]⟩
abbrev fi (l : List Value) : Obj := ⟨.none, none, .fields l.toArray, #[]⟩
abbrev co (l : List Value) : Obj := ⟨.type "code", none, .fields l.toArray, #[]⟩
def aF (s : Stmt) : Arguments := match s with
  | .FunctionDef _ a _ _ _ _ _ _ _ _ => a
  | _ => ⟨[], [], none, [], [], none, []⟩
def bF (s : Stmt) : List Stmt := match s with
  | .FunctionDef _ _ b _ _ _ _ _ _ _ => b
  | .ClassDef _ _ _ b _ _ _ _ _ _ _ => b
  | _ => []
def cF (s : Stmt) : Scope := match s with
  | .FunctionDef _ _ _ _ _ _ c _ _ _ => c
  | _ => ⟨.function, [], false, false, []⟩
def pick : Nat → List Stmt → Stmt
  | _, [] => .Pass default
  | 0, s :: _ => s
  | n + 1, _ :: r => pick n r
abbrev fd (s : Stmt) (n q : String) (g : Addr) (clo : List (Str × Addr)) (d k doc pm : Value) (an : Option Addr) (c ct : Value) (bi : Addr) : FuncData :=
  ⟨Str.ofString n, Str.ofString q, aF s, .stmts (bF s), cF s, g, clo, d, k, doc, pm, an, c, ct, bi⟩
abbrev FuncF : Type := String → String → Addr → List (Str × Addr) → Value → Value → Value → Value → Option Addr → Value → Value → Addr → FuncData
def st (i : Nat) : FuncF := fun n q g clo d k doc pm an c ct bi => fd (pick i lawP.main.body) n q g clo d k doc pm an c ct bi
def sm (i j : Nat) : FuncF := fun n q g clo d k doc pm an c ct bi => fd (pick j (bF (pick i lawP.main.body))) n q g clo d k doc pm an c ct bi

/-- some places anew -/
def anew : Nat → List Obj → List (Nat × Obj) → List Obj
  | _, l, [] => l
  | _, [], _ :: _ => []
  | n, o :: r, u :: us => match Nat.beq n u.1 with
    | true => u.2 :: anew (n + 1) r us
    | false => o :: anew (n + 1) r (u :: us)
def os0 (P : Params) (o20 : Obj) : List Obj := [
  ob (T "dict") (.dict (L [E P "__name__" 1 (S "builtins" 160),E P "__doc__" 2 (B "builtins.__doc__:str#opaque"),E P "__package__" 3 (B "builtins.__package__:str#opaque"),E P "__loader__" 4 (B "builtins.__loader__:shared#opaque"),E P "__spec__" 5 (B "builtins.__spec__#opaque"),E P "__build_class__" 6 (B "__build_class__"),E P "__import__" 7 (B "__import__"),E P "abs" 8 (B "abs"),E P "all" 9 (B "all"),E P "any" 10 (B "any"),E P "ascii" 11 (B "ascii"),E P "bin" 12 (B "bin"),E P "breakpoint" 13 (B "breakpoint"),E P "callable" 14 (B "callable"),E P "chr" 15 (B "chr"),E P "compile" 16 (B "compile"),E P "delattr" 17 (B "delattr"),E P "dir" 18 (B "dir"),E P "divmod" 19 (B "divmod"),E P "eval" 20 (B "eval"),E P "exec" 21 (B "exec"),E P "format" 22 (B "format"),E P "getattr" 23 (B "getattr"),E P "globals" 24 (B "globals"),E P "hasattr" 25 (B "hasattr"),E P "hash" 26 (B "hash"),E P "hex" 27 (B "hex"),E P "id" 28 (B "id"),E P "input" 29 (B "input"),E P "isinstance" 30 (B "isinstance"),E P "issubclass" 31 (B "issubclass"),E P "iter" 32 (B "iter"),E P "aiter" 33 (B "aiter"),E P "len" 34 (B "len"),E P "locals" 35 (B "locals"),E P "max" 36 (B "max"),E P "min" 37 (B "min"),E P "next" 38 (B "next"),E P "anext" 39 (B "anext"),E P "oct" 40 (B "oct"),E P "ord" 41 (B "ord"),E P "pow" 42 (B "pow"),E P "print" 43 (B "print"),E P "repr" 44 (B "repr"),E P "round" 45 (B "round"),E P "setattr" 46 (B "setattr"),E P "sorted" 47 (B "sorted"),E P "sum" 48 (B "sum"),E P "vars" 49 (B "vars"),E P "None" 50 N,E P "Ellipsis" 51 .ellipsis,E P "NotImplemented" 52 .notImplemented,E P "False" 53 (.bool false),E P "True" 54 (.bool true),E P "bool" 55 (T "bool"),E P "memoryview" 56 (T "memoryview"),E P "bytearray" 57 (T "bytearray"),E P "bytes" 58 (T "bytes"),E P "classmethod" 59 (T "classmethod"),E P "complex" 60 (T "complex"),E P "dict" 61 (T "dict"),E P "enumerate" 62 (T "enumerate"),E P "filter" 63 (T "filter"),E P "float" 64 (T "float"),E P "frozenset" 65 (T "frozenset"),E P "property" 66 (T "property"),E P "int" 67 (T "int"),E P "list" 68 (T "list"),E P "map" 69 (T "map"),E P "object" 70 (T "object"),E P "range" 71 (T "range"),E P "reversed" 72 (T "reversed"),E P "set" 73 (T "set"),E P "slice" 74 (T "slice"),E P "staticmethod" 75 (T "staticmethod"),E P "str" 76 (T "str"),E P "super" 77 (T "super"),E P "tuple" 78 (T "tuple"),E P "type" 79 (T "type"),E P "zip" 80 (T "zip"),E P "__debug__" 81 (.bool true),E P "BaseException" 82 (T "BaseException"),E P "BaseExceptionGroup" 83 (T "BaseExceptionGroup"),E P "Exception" 84 (T "Exception"),E P "GeneratorExit" 85 (T "GeneratorExit"),E P "KeyboardInterrupt" 86 (T "KeyboardInterrupt"),E P "SystemExit" 87 (T "SystemExit"),E P "ArithmeticError" 88 (T "ArithmeticError"),E P "AssertionError" 89 (T "AssertionError"),E P "AttributeError" 90 (T "AttributeError"),E P "BufferError" 91 (T "BufferError"),E P "EOFError" 92 (T "EOFError"),E P "ImportError" 93 (T "ImportError"),E P "LookupError" 94 (T "LookupError"),E P "MemoryError" 95 (T "MemoryError"),E P "NameError" 96 (T "NameError"),E P "OSError" 97 (T "OSError"),E P "ReferenceError" 98 (T "ReferenceError"),E P "RuntimeError" 99 (T "RuntimeError"),E P "StopAsyncIteration" 100 (T "StopAsyncIteration"),E P "StopIteration" 101 (T "StopIteration"),E P "SyntaxError" 102 (T "SyntaxError"),E P "SystemError" 103 (T "SystemError"),E P "TypeError" 104 (T "TypeError"),E P "ValueError" 105 (T "ValueError"),E P "Warning" 106 (T "Warning"),E P "FloatingPointError" 107 (T "FloatingPointError"),E P "OverflowError" 108 (T "OverflowError"),E P "ZeroDivisionError" 109 (T "ZeroDivisionError"),E P "BytesWarning" 110 (T "BytesWarning"),E P "DeprecationWarning" 111 (T "DeprecationWarning"),E P "EncodingWarning" 112 (T "EncodingWarning"),E P "FutureWarning" 113 (T "FutureWarning"),E P "ImportWarning" 114 (T "ImportWarning"),E P "PendingDeprecationWarning" 115 (T "PendingDeprecationWarning"),E P "ResourceWarning" 116 (T "ResourceWarning"),E P "RuntimeWarning" 117 (T "RuntimeWarning"),E P "SyntaxWarning" 118 (T "SyntaxWarning"),E P "UnicodeWarning" 119 (T "UnicodeWarning"),E P "UserWarning" 120 (T "UserWarning"),E P "BlockingIOError" 121 (T "BlockingIOError"),E P "ChildProcessError" 122 (T "ChildProcessError"),E P "ConnectionError" 123 (T "ConnectionError"),E P "FileExistsError" 124 (T "FileExistsError"),E P "FileNotFoundError" 125 (T "FileNotFoundError"),E P "InterruptedError" 126 (T "InterruptedError"),E P "IsADirectoryError" 127 (T "IsADirectoryError"),E P "NotADirectoryError" 128 (T "NotADirectoryError"),E P "PermissionError" 129 (T "PermissionError"),E P "ProcessLookupError" 130 (T "ProcessLookupError"),E P "TimeoutError" 131 (T "TimeoutError"),E P "IndentationError" 132 (T "IndentationError"),E P "_IncompleteInputError" 133 (T "_IncompleteInputError"),E P "IndexError" 134 (T "IndexError"),E P "KeyError" 135 (T "KeyError"),E P "ModuleNotFoundError" 136 (T "ModuleNotFoundError"),E P "NotImplementedError" 137 (T "NotImplementedError"),E P "PythonFinalizationError" 138 (T "PythonFinalizationError"),E P "RecursionError" 139 (T "RecursionError"),E P "UnboundLocalError" 140 (T "UnboundLocalError"),E P "UnicodeError" 141 (T "UnicodeError"),E P "BrokenPipeError" 142 (T "BrokenPipeError"),E P "ConnectionAbortedError" 143 (T "ConnectionAbortedError"),E P "ConnectionRefusedError" 144 (T "ConnectionRefusedError"),E P "ConnectionResetError" 145 (T "ConnectionResetError"),E P "TabError" 146 (T "TabError"),E P "UnicodeDecodeError" 147 (T "UnicodeDecodeError"),E P "UnicodeEncodeError" 148 (T "UnicodeEncodeError"),E P "UnicodeTranslateError" 149 (T "UnicodeTranslateError"),E P "ExceptionGroup" 150 (T "ExceptionGroup"),E P "EnvironmentError" 151 (T "OSError"),E P "IOError" 152 (T "OSError"),E P "open" 153 (B "open"),E P "quit" 154 (B "builtins.quit#opaque"),E P "exit" 155 (B "builtins.exit#opaque"),E P "copyright" 156 (B "builtins.copyright#opaque"),E P "credits" 157 (B "builtins.credits#opaque"),E P "license" 158 (B "builtins.license#opaque"),E P "help" 159 (B "builtins.help#opaque")]) 159),
  ob (T "dict") (.dict (L [E P "builtins" 162 (R 4),E P "__main__" 163 (R 5),E P "math" 284 (R 13)]) 3),
  ob N (.dict (L [E P "import.loaded.math" 185 (.bool true),E P "class._frozen_importlib_external._LoaderBasics" 190 (R 16),E P "watched.import" 206 (R 20),E P "class._frozen_importlib_external.FileLoader" 207 (R 22),E P "class._frozen_importlib_external.ExtensionFileLoader" 228 (R 27),E P "class._frozen_importlib.ModuleSpec" 256 (R 33),E P "sys.modules.booked-epoch" 285 (I 3),E P "import.later-laid.math" 361 (.bool true),E P "watched.library" 363 (R 38),E P "watched.library-objects" 0 (S "\u000d" 0)]) 10),
  ob (T "dict") (.dict (L [E P "__name__" 165 (S "wholefaces.treekinds" 1432),E P "__doc__" 166 N,E P "__package__" 167 N,E P "__loader__" 168 (B "__main__.__loader__#opaque"),E P "__spec__" 169 N,E P "__annotations__" 170 (R 6),E P "__builtins__" 171 (R 4),E P "__file__" 173 (S "/claim/cut.py" 172),E P "__cached__" 174 N,E P "gcd" 369 (B "math.gcd"),E P "MeshError" 395 (R 52),E P "ShapeError" 411 (R 65),E P "TextError" 427 (R 77),E P "NotUsable" 454 (R 96),E P "CutRoot" 479 (R 115),E P "EmptySolid" 495 (R 127),E P "InvalidText" 522 (R 146),E P "is_integer" 531 (R 155),E P "is_number" 538 (R 162),E P "is_quotient" 547 (R 169),E P "is_space" 556 (R 176),E P "_are_integers" 565 (R 183),E P "is_point" 573 (R 190),E P "is_new" 583 (R 197),E P "is_place" 593 (R 204),E P "is_body" 602 (R 211),E P "b_lowest" 614 (R 218),E P "b_odd" 620 (R 223),E P "b_even_corners" 626 (R 228),E P "b_generation" 636 (R 235),E P "b_reach" 644 (R 242),E P "b_centre" 650 (R 247),E P "b_moved" 659 (R 254),E P "b_turn" 665 (R 259),E P "b_is_row" 681 (R 266),E P "b_check" 690 (R 273),E P "b_halves" 699 (R 280),E P "b_parent" 713 (R 287),E P "b_differences" 719 (R 292),E P "b_determinant" 725 (R 297),E P "b_cross" 733 (R 304),E P "_look_new" 743 (R 311),E P "_grain" 752 (R 318),E P "_open" 758 (R 323),E P "grain_of" 766 (R 330),E P "open_of" 774 (R 337),E P "level_of" 782 (R 344),E P "generation_of" 794 (R 351),E P "seat_of" 806 (R 358),E P "tips_of" 819 (R 365),E P "seat_corners" 825 (R 370),E P "key_of" 835 (R 377),E P "in_order" 841 (R 382),E P "held_points" 849 (R 387),E P "_lowest_quotient" 860 (R 394),E P "_look_quotients" 868 (R 401),E P "quotient_of" 876 (R 408),E P "plus" 884 (R 415),E P "minus" 892 (R 422),E P "times" 900 (R 429),E P "over" 908 (R 436),E P "less" 916 (R 443),E P "_b_dot" 924 (R 448),E P "_b_normals" 930 (R 453),E P "_b_cosine" 940 (R 460),E P "_b_degrees" 947 (R 467),E P "_b_check_sides" 956 (R 474),E P "lengths_of" 962 (R 479),E P "cosine_of" 972 (R 486),E P "degrees_of" 982 (R 493),E P "angles_of" 995 (R 500),E P "measure_of" 1004 (R 507),E P "is_flat" 1011 (R 514),E P "side_book" 1020 (R 521),E P "border_sides" 1026 (R 526),E P "pieces_of" 1032 (R 531),E P "euler_of" 1038 (R 536),E P "solid_measure" 1044 (R 541),E P "_c_bodies_fit" 1050 (R 546),E P "_c_sides" 1056 (R 551),E P "_c_faces" 1062 (R 556),E P "_b_check_edge" 1074 (R 563),E P "_b_has_centre" 1080 (R 568),E P "half_way" 1090 (R 575),E P "road_to" 1102 (R 582),E P "SMALL" 1106 (S "abcdefghijklmnopqrstuvwxyz" 1105),E P "FIGURES" 1108 (S "0123456789" 1107),E P "MARKS_OF_TEXTS" 1121 (R 583),E P "RESERVED" 1158 (R 584),E P "words_of" 1167 (R 591),E P "_c_scanned" 1177 (R 598),E P "_c_word_end" 1186 (R 605),E P "_c_row_end" 1196 (R 612),E P "_c_is_word_name" 1203 (R 619),E P "_c_are_names" 1209 (R 624),E P "_c_is_number_word" 1216 (R 631),E P "_c_is_path" 1223 (R 638),E P "WordReader" 1378 (R 750),E P "_c_read_either" 1387 (R 761),E P "_c_read_both" 1396 (R 768),E P "_c_read_unit" 1405 (R 775),E P "_c_logic_line" 1414 (R 782),E P "_c_within" 1425 (R 789),E P "_c_point_line" 1431 (R 794)]) 104),
  ⟨(T "module"), (some 0), .plain, L []⟩,
  ⟨(T "module"), (some 3), .plain, L []⟩,
  ob (T "dict") (.dict (L []) 0),
  tu [],
  fi [],
  co [(S "<module>" 176),(S "<module>" 177),(S "/claim/cut.py" 178),(I 1),(I 0),(I 0),(I 0),(I 0),(R 7),(.bool false),(I 175),(R 8),N,N,N,N,(I 179),(I 1),(S "/claim/cut.py" 180)],
  ⟨(T "frame"), none, .plain, L [(some (R 9)),(some (R 3)),(some (R 3)),none,(some (S "__main__" 164)),none,(some (R 0))]⟩,
  tu [(S "gcd" 182)],
  ob (T "dict") (.dict (L [E P "__name__" 287 (S "math" 286),E P "__doc__" 288 (B "off-the-table:math.__doc__:shared#opaque"),E P "__package__" 290 (S "" 289),E P "__loader__" 291 (B "off-the-table:math.__loader__:shared#opaque"),E P "__spec__" 292 (B "off-the-table:math.__spec__:shared#opaque"),E P "acos" 293 (B "off-the-table:math.acos:shared#opaque"),E P "acosh" 294 (B "off-the-table:math.acosh:shared#opaque"),E P "asin" 295 (B "off-the-table:math.asin:shared#opaque"),E P "asinh" 296 (B "off-the-table:math.asinh:shared#opaque"),E P "atan" 297 (B "off-the-table:math.atan:shared#opaque"),E P "atan2" 298 (B "off-the-table:math.atan2:shared#opaque"),E P "atanh" 299 (B "off-the-table:math.atanh:shared#opaque"),E P "cbrt" 300 (B "off-the-table:math.cbrt:shared#opaque"),E P "ceil" 301 (B "math.ceil"),E P "copysign" 302 (B "math.copysign"),E P "cos" 303 (B "off-the-table:math.cos:shared#opaque"),E P "cosh" 304 (B "off-the-table:math.cosh:shared#opaque"),E P "degrees" 305 (B "math.degrees"),E P "dist" 306 (B "math.dist"),E P "erf" 307 (B "off-the-table:math.erf:shared#opaque"),E P "erfc" 308 (B "off-the-table:math.erfc:shared#opaque"),E P "exp" 309 (B "off-the-table:math.exp:shared#opaque"),E P "exp2" 310 (B "off-the-table:math.exp2:shared#opaque"),E P "expm1" 311 (B "off-the-table:math.expm1:shared#opaque"),E P "fabs" 312 (B "math.fabs"),E P "factorial" 313 (B "math.factorial"),E P "floor" 314 (B "math.floor"),E P "fma" 315 (B "math.fma"),E P "fmod" 316 (B "math.fmod"),E P "frexp" 317 (B "math.frexp"),E P "fsum" 318 (B "math.fsum"),E P "gamma" 319 (B "off-the-table:math.gamma:shared#opaque"),E P "gcd" 320 (B "math.gcd"),E P "hypot" 321 (B "math.hypot"),E P "isclose" 322 (B "math.isclose"),E P "isfinite" 323 (B "math.isfinite"),E P "isinf" 324 (B "math.isinf"),E P "isnan" 325 (B "math.isnan"),E P "isqrt" 326 (B "math.isqrt"),E P "lcm" 327 (B "math.lcm"),E P "ldexp" 328 (B "math.ldexp"),E P "lgamma" 329 (B "off-the-table:math.lgamma:shared#opaque"),E P "log" 330 (B "off-the-table:math.log:shared#opaque"),E P "log1p" 331 (B "off-the-table:math.log1p:shared#opaque"),E P "log10" 332 (B "off-the-table:math.log10:shared#opaque"),E P "log2" 333 (B "off-the-table:math.log2:shared#opaque"),E P "modf" 334 (B "math.modf"),E P "pow" 335 (B "off-the-table:math.pow:shared#opaque"),E P "radians" 336 (B "math.radians"),E P "remainder" 337 (B "math.remainder"),E P "sin" 338 (B "off-the-table:math.sin:shared#opaque"),E P "sinh" 339 (B "off-the-table:math.sinh:shared#opaque"),E P "sqrt" 340 (B "math.sqrt"),E P "tan" 341 (B "off-the-table:math.tan:shared#opaque"),E P "tanh" 342 (B "off-the-table:math.tanh:shared#opaque"),E P "sumprod" 343 (B "math.sumprod"),E P "trunc" 344 (B "math.trunc"),E P "prod" 345 (B "math.prod"),E P "perm" 346 (B "math.perm"),E P "comb" 347 (B "math.comb"),E P "nextafter" 348 (B "math.nextafter"),E P "ulp" 349 (B "math.ulp"),E P "__file__" 350 (S "/nix/store/wj1f56qky4pmjc7l0r6b6l7whnnw7hp6-python3-3.13.15/lib/python3.13/lib-dynload/math.cpython-313-x86_64-linux-gnu.so" 186),E P "pi" 352 (.float 4614256656552045848 351),E P "e" 354 (.float 4613303445314885481 353),E P "tau" 356 (.float 4618760256179416344 355),E P "inf" 358 (.float 9218868437227405312 357),E P "nan" 360 (.float 9221120237041090560 359)]) 68),
  ⟨(T "module"), (some 12), .plain, L []⟩,
  ob (T "dict") (.dict (L [E P "name" 188 (S "math" 187),E P "path" 189 (S "/nix/store/wj1f56qky4pmjc7l0r6b6l7whnnw7hp6-python3-3.13.15/lib/python3.13/lib-dynload/math.cpython-313-x86_64-linux-gnu.so" 186)]) 2),
  ob (T "dict") (.dict (L [E P "__module__" 193 (S "_frozen_importlib_external" 191),E P "__firstlineno__" 194 (J 1001 192),E P "__doc__" 195 (B "_frozen_importlib_external._LoaderBasics.__doc__:str#opaque"),E P "is_package" 196 (B "_frozen_importlib_external._LoaderBasics.is_package#opaque"),E P "create_module" 197 (B "_frozen_importlib_external._LoaderBasics.create_module#opaque"),E P "exec_module" 198 (B "_frozen_importlib_external._LoaderBasics.exec_module#opaque"),E P "load_module" 199 (B "_frozen_importlib_external._LoaderBasics.load_module#opaque"),E P "__static_attributes__" 200 (R 17),E P "__dict__" 202 (R 18),E P "__weakref__" 204 (R 19)]) 10),
  ob (T "type") (.cls ⟨"_LoaderBasics", [(T "object")], [(R 16),(T "object")], 15, "_LoaderBasics", true, [], [(R 27)], false, none, false⟩),
  tu [],
  ob (T "getset_descriptor") (.fields (L [(S "__dict__" 201),(R 16),(B "function.__dict__"),(B "function.__dict__#set")])),
  ob (T "getset_descriptor") (.fields (L [(S "__weakref__" 203),(R 16),(B "ExceptionGroup.__weakref__"),N])),
  o20,
  ob (T "dict") (.dict (L [E P "__module__" 212 (S "_frozen_importlib_external" 208),E P "__firstlineno__" 213 (J 1176 209),E P "__doc__" 214 (B "_frozen_importlib_external.FileLoader.__doc__:str#opaque"),E P "__init__" 215 (B "_frozen_importlib_external.FileLoader.__init__#opaque"),E P "__eq__" 216 (B "_frozen_importlib_external.FileLoader.__eq__#opaque"),E P "__hash__" 217 (B "_frozen_importlib_external.FileLoader.__hash__#opaque"),E P "load_module" 218 (B "_frozen_importlib_external.FileLoader.load_module#opaque"),E P "get_filename" 219 (B "_frozen_importlib_external.FileLoader.get_filename#opaque"),E P "get_data" 220 (B "_frozen_importlib_external.FileLoader.get_data#opaque"),E P "get_resource_reader" 221 (B "_frozen_importlib_external.FileLoader.get_resource_reader#opaque"),E P "__static_attributes__" 222 (R 23),E P "__dict__" 224 (R 24),E P "__weakref__" 226 (R 25)]) 13),
  ob (T "type") (.cls ⟨"FileLoader", [(T "object")], [(R 22),(T "object")], 21, "FileLoader", true, [], [(R 27)], false, none, false⟩),
  tu [(S "name" 210),(S "path" 211)],
  ob (T "getset_descriptor") (.fields (L [(S "__dict__" 223),(R 22),(B "function.__dict__"),(B "function.__dict__#set")])),
  ob (T "getset_descriptor") (.fields (L [(S "__weakref__" 225),(R 22),(B "ExceptionGroup.__weakref__"),N])),
  ob (T "dict") (.dict (L [E P "__module__" 233 (S "_frozen_importlib_external" 229),E P "__firstlineno__" 234 (J 1296 230),E P "__doc__" 235 (B "_frozen_importlib_external.ExtensionFileLoader.__doc__:str#opaque"),E P "__init__" 236 (B "_frozen_importlib_external.ExtensionFileLoader.__init__#opaque"),E P "__eq__" 237 (B "_frozen_importlib_external.ExtensionFileLoader.__eq__#opaque"),E P "__hash__" 238 (B "_frozen_importlib_external.ExtensionFileLoader.__hash__#opaque"),E P "create_module" 239 (B "_frozen_importlib_external.ExtensionFileLoader.create_module#opaque"),E P "exec_module" 240 (B "_frozen_importlib_external.ExtensionFileLoader.exec_module#opaque"),E P "is_package" 241 (B "_frozen_importlib_external.ExtensionFileLoader.is_package#opaque"),E P "get_code" 242 (B "_frozen_importlib_external.ExtensionFileLoader.get_code#opaque"),E P "get_source" 243 (B "_frozen_importlib_external.ExtensionFileLoader.get_source#opaque"),E P "get_filename" 244 (B "_frozen_importlib_external.ExtensionFileLoader.get_filename#opaque"),E P "__static_attributes__" 245 (R 28)]) 13),
  ob (T "type") (.cls ⟨"ExtensionFileLoader", [(R 22),(R 16)], [(R 27),(R 22),(R 16),(T "object")], 26, "ExtensionFileLoader", true, [], [], false, none, false⟩),
  tu [(S "name" 231),(S "path" 232)],
  ⟨(R 27), (some 14), .plain, L []⟩,
  ob (T "list") (.seq (L []) 0),
  ob (T "dict") (.dict (L [E P "name" 248 (S "math" 247),E P "loader" 249 (R 29),E P "origin" 250 (S "/nix/store/wj1f56qky4pmjc7l0r6b6l7whnnw7hp6-python3-3.13.15/lib/python3.13/lib-dynload/math.cpython-313-x86_64-linux-gnu.so" 186),E P "loader_state" 251 N,E P "submodule_search_locations" 252 N,E P "_uninitialized_submodules" 253 (R 30),E P "_set_fileattr" 254 (.bool true),E P "_cached" 255 N,E P "_initializing" 283 (.bool false)]) 9),
  ob (T "dict") (.dict (L [E P "__module__" 267 (S "_frozen_importlib" 257),E P "__firstlineno__" 268 (J 562 258),E P "__doc__" 269 (B "_frozen_importlib.ModuleSpec.__doc__:str#opaque"),E P "__init__" 270 (B "_frozen_importlib.ModuleSpec.__init__#opaque"),E P "__repr__" 271 (B "_frozen_importlib.ModuleSpec.__repr__#opaque"),E P "__eq__" 272 (B "_frozen_importlib.ModuleSpec.__eq__#opaque"),E P "cached" 273 (B "_frozen_importlib.ModuleSpec.cached#opaque"),E P "parent" 274 (B "_frozen_importlib.ModuleSpec.parent#opaque"),E P "has_location" 275 (B "_frozen_importlib.ModuleSpec.has_location#opaque"),E P "__static_attributes__" 276 (R 34),E P "__dict__" 278 (R 35),E P "__weakref__" 280 (R 36),E P "__hash__" 281 N]) 13),
  ob (T "type") (.cls ⟨"ModuleSpec", [(T "object")], [(R 33),(T "object")], 32, "ModuleSpec", true, [], [], false, none, false⟩),
  tu [(S "_cached" 259),(S "_set_fileattr" 260),(S "_uninitialized_submodules" 261),(S "loader" 262),(S "loader_state" 263),(S "name" 264),(S "origin" 265),(S "submodule_search_locations" 266)],
  ob (T "getset_descriptor") (.fields (L [(S "__dict__" 277),(R 33),(B "function.__dict__"),(B "function.__dict__#set")])),
  ob (T "getset_descriptor") (.fields (L [(S "__weakref__" 279),(R 33),(B "ExceptionGroup.__weakref__"),N])),
  ⟨(R 33), (some 31), .plain, L []⟩,
  ob N (.seq (L [(I 12),(.str ⟨#[6, 287, 8, 95, 95, 110, 97, 109, 101, 95, 95, 6, 286, 4, 109, 97, 116, 104, 6, 288, 7, 95, 95, 100, 111, 99, 95, 95, 9, 23, 109, 97, 116, 104, 46, 95, 95, 100, 111, 99, 95, 95, 58, 115, 116, 114, 35, 111, 112, 97, 113, 117, 101, 6, 290, 11, 95, 95, 112, 97, 99, 107, 97, 103, 101, 95, 95, 6, 289, 0, 6, 291, 10, 95, 95, 108, 111, 97, 100, 101, 114, 95, 95, 4, 0, 0, 29, 6, 292, 8, 95, 95, 115, 112, 101, 99, 95, 95, 4, 0, 0, 37, 6, 293, 4, 97, 99, 111, 115, 9, 9, 109, 97, 116, 104, 46, 97, 99, 111, 115, 6, 294, 5, 97, 99, 111, 115, 104, 9, 10, 109, 97, 116, 104, 46, 97, 99, 111, 115, 104, 6, 295, 4, 97, 115, 105, 110, 9, 9, 109, 97, 116, 104, 46, 97, 115, 105, 110, 6, 296, 5, 97, 115, 105, 110, 104, 9, 10, 109, 97, 116, 104, 46, 97, 115, 105, 110, 104, 6, 297, 4, 97, 116, 97, 110, 9, 9, 109, 97, 116, 104, 46, 97, 116, 97, 110, 6, 298, 5, 97, 116, 97, 110, 50, 9, 10, 109, 97, 116, 104, 46, 97, 116, 97, 110, 50, 6, 299, 5, 97, 116, 97, 110, 104, 9, 10, 109, 97, 116, 104, 46, 97, 116, 97, 110, 104, 6, 300, 4, 99, 98, 114, 116, 9, 9, 109, 97, 116, 104, 46, 99, 98, 114, 116, 6, 301, 4, 99, 101, 105, 108, 9, 9, 109, 97, 116, 104, 46, 99, 101, 105, 108, 6, 302, 8, 99, 111, 112, 121, 115, 105, 103, 110, 9, 13, 109, 97, 116, 104, 46, 99, 111, 112, 121, 115, 105, 103, 110, 6, 303, 3, 99, 111, 115, 9, 8, 109, 97, 116, 104, 46, 99, 111, 115, 6, 304, 4, 99, 111, 115, 104, 9, 9, 109, 97, 116, 104, 46, 99, 111, 115, 104, 6, 305, 7, 100, 101, 103, 114, 101, 101, 115, 9, 12, 109, 97, 116, 104, 46, 100, 101, 103, 114, 101, 101, 115, 6, 306, 4, 100, 105, 115, 116, 9, 9, 109, 97, 116, 104, 46, 100, 105, 115, 116, 6, 307, 3, 101, 114, 102, 9, 8, 109, 97, 116, 104, 46, 101, 114, 102, 6, 308, 4, 101, 114, 102, 99, 9, 9, 109, 97, 116, 104, 46, 101, 114, 102, 99, 6, 309, 3, 101, 120, 112, 9, 8, 109, 97, 116, 104, 46, 101, 120, 112, 6, 310, 4, 101, 120, 112, 50, 9, 9, 109, 97, 116, 104, 46, 101, 120, 112, 50, 6, 311, 5, 101, 120, 112, 109, 49, 9, 10, 109, 97, 116, 104, 46, 101, 120, 112, 109, 49, 6, 312, 4, 102, 97, 98, 115, 9, 9, 109, 97, 116, 104, 46, 102, 97, 98, 115, 6, 313, 9, 102, 97, 99, 116, 111, 114, 105, 97, 108, 9, 14, 109, 97, 116, 104, 46, 102, 97, 99, 116, 111, 114, 105, 97, 108, 6, 314, 5, 102, 108, 111, 111, 114, 9, 10, 109, 97, 116, 104, 46, 102, 108, 111, 111, 114, 6, 315, 3, 102, 109, 97, 9, 8, 109, 97, 116, 104, 46, 102, 109, 97, 6, 316, 4, 102, 109, 111, 100, 9, 9, 109, 97, 116, 104, 46, 102, 109, 111, 100, 6, 317, 5, 102, 114, 101, 120, 112, 9, 10, 109, 97, 116, 104, 46, 102, 114, 101, 120, 112, 6, 318, 4, 102, 115, 117, 109, 9, 9, 109, 97, 116, 104, 46, 102, 115, 117, 109, 6, 319, 5, 103, 97, 109, 109, 97, 9, 10, 109, 97, 116, 104, 46, 103, 97, 109, 109, 97, 6, 320, 3, 103, 99, 100, 9, 8, 109, 97, 116, 104, 46, 103, 99, 100, 6, 321, 5, 104, 121, 112, 111, 116, 9, 10, 109, 97, 116, 104, 46, 104, 121, 112, 111, 116, 6, 322, 7, 105, 115, 99, 108, 111, 115, 101, 9, 12, 109, 97, 116, 104, 46, 105, 115, 99, 108, 111, 115, 101, 6, 323, 8, 105, 115, 102, 105, 110, 105, 116, 101, 9, 13, 109, 97, 116, 104, 46, 105, 115, 102, 105, 110, 105, 116, 101, 6, 324, 5, 105, 115, 105, 110, 102, 9, 10, 109, 97, 116, 104, 46, 105, 115, 105, 110, 102, 6, 325, 5, 105, 115, 110, 97, 110, 9, 10, 109, 97, 116, 104, 46, 105, 115, 110, 97, 110, 6, 326, 5, 105, 115, 113, 114, 116, 9, 10, 109, 97, 116, 104, 46, 105, 115, 113, 114, 116, 6, 327, 3, 108, 99, 109, 9, 8, 109, 97, 116, 104, 46, 108, 99, 109, 6, 328, 5, 108, 100, 101, 120, 112, 9, 10, 109, 97, 116, 104, 46, 108, 100, 101, 120, 112, 6, 329, 6, 108, 103, 97, 109, 109, 97, 9, 11, 109, 97, 116, 104, 46, 108, 103, 97, 109, 109, 97, 6, 330, 3, 108, 111, 103, 9, 8, 109, 97, 116, 104, 46, 108, 111, 103, 6, 331, 5, 108, 111, 103, 49, 112, 9, 10, 109, 97, 116, 104, 46, 108, 111, 103, 49, 112, 6, 332, 5, 108, 111, 103, 49, 48, 9, 10, 109, 97, 116, 104, 46, 108, 111, 103, 49, 48, 6, 333, 4, 108, 111, 103, 50, 9, 9, 109, 97, 116, 104, 46, 108, 111, 103, 50, 6, 334, 4, 109, 111, 100, 102, 9, 9, 109, 97, 116, 104, 46, 109, 111, 100, 102, 6, 335, 3, 112, 111, 119, 9, 8, 109, 97, 116, 104, 46, 112, 111, 119, 6, 336, 7, 114, 97, 100, 105, 97, 110, 115, 9, 12, 109, 97, 116, 104, 46, 114, 97, 100, 105, 97, 110, 115, 6, 337, 9, 114, 101, 109, 97, 105, 110, 100, 101, 114, 9, 14, 109, 97, 116, 104, 46, 114, 101, 109, 97, 105, 110, 100, 101, 114, 6, 338, 3, 115, 105, 110, 9, 8, 109, 97, 116, 104, 46, 115, 105, 110, 6, 339, 4, 115, 105, 110, 104, 9, 9, 109, 97, 116, 104, 46, 115, 105, 110, 104, 6, 340, 4, 115, 113, 114, 116, 9, 9, 109, 97, 116, 104, 46, 115, 113, 114, 116, 6, 341, 3, 116, 97, 110, 9, 8, 109, 97, 116, 104, 46, 116, 97, 110, 6, 342, 4, 116, 97, 110, 104, 9, 9, 109, 97, 116, 104, 46, 116, 97, 110, 104, 6, 343, 7, 115, 117, 109, 112, 114, 111, 100, 9, 12, 109, 97, 116, 104, 46, 115, 117, 109, 112, 114, 111, 100, 6, 344, 5, 116, 114, 117, 110, 99, 9, 10, 109, 97, 116, 104, 46, 116, 114, 117, 110, 99, 6, 345, 4, 112, 114, 111, 100, 9, 9, 109, 97, 116, 104, 46, 112, 114, 111, 100, 6, 346, 4, 112, 101, 114, 109, 9, 9, 109, 97, 116, 104, 46, 112, 101, 114, 109, 6, 347, 4, 99, 111, 109, 98, 9, 9, 109, 97, 116, 104, 46, 99, 111, 109, 98, 6, 348, 9, 110, 101, 120, 116, 97, 102, 116, 101, 114, 9, 14, 109, 97, 116, 104, 46, 110, 101, 120, 116, 97, 102, 116, 101, 114, 6, 349, 3, 117, 108, 112, 9, 8, 109, 97, 116, 104, 46, 117, 108, 112, 6, 350, 8, 95, 95, 102, 105, 108, 101, 95, 95, 6, 186, 123, 47, 110, 105, 120, 47, 115, 116, 111, 114, 101, 47, 119, 106, 49, 102, 53, 54, 113, 107, 121, 52, 112, 109, 106, 99, 55, 108, 48, 114, 54, 98, 54, 108, 55, 119, 104, 110, 110, 119, 55, 104, 112, 54, 45, 112, 121, 116, 104, 111, 110, 51, 45, 51, 46, 49, 51, 46, 49, 53, 47, 108, 105, 98, 47, 112, 121, 116, 104, 111, 110, 51, 46, 49, 51, 47, 108, 105, 98, 45, 100, 121, 110, 108, 111, 97, 100, 47, 109, 97, 116, 104, 46, 99, 112, 121, 116, 104, 111, 110, 45, 51, 49, 51, 45, 120, 56, 54, 95, 54, 52, 45, 108, 105, 110, 117, 120, 45, 103, 110, 117, 46, 115, 111, 6, 352, 2, 112, 105, 5, 351, 4614256656552045848, 6, 354, 1, 101, 5, 353, 4613303445314885481, 6, 356, 3, 116, 97, 117, 5, 355, 4618760256179416344, 6, 358, 3, 105, 110, 102, 5, 357, 9218868437227405312, 6, 360, 3, 110, 97, 110, 5, 359, 9221120237041090560]⟩ 0),(.bool true),(.bool false),(S "math" 362)]) 0),
  tu [],
  fi [(I 3),(I 0),(R 48),(I 5),(I 0),(R 61),(I 7),(I 0),(R 73),(I 9),(I 0),(R 85),(I 14),(I 0),(R 104),(I 18),(I 0),(R 123),(I 20),(I 0),(R 135),(I 26),(I 0),(R 154),(I 28),(I 0),(R 161),(I 30),(I 0),(R 168),(I 37),(I 0),(R 175),(I 42),(I 0),(R 182),(I 49),(I 0),(R 189),(I 51),(I 0),(R 196),(I 59),(I 0),(R 203),(I 66),(I 0),(R 210),(I 74),(I 0),(R 217),(I 80),(I 0),(R 222),(I 82),(I 0),(R 227),(I 84),(I 0),(R 234),(I 88),(I 0),(R 241),(I 93),(I 0),(R 246),(I 95),(I 0),(R 253),(I 97),(I 0),(R 258),(I 102),(I 0),(R 265),(I 126),(I 0),(R 272),(I 129),(I 0),(R 279),(I 133),(I 0),(R 286),(I 149),(I 0),(R 291),(I 152),(I 0),(R 296),(I 157),(I 0),(R 303),(I 160),(I 0),(R 310),(I 163),(I 0),(R 317),(I 168),(I 0),(R 322),(I 170),(I 0),(R 329),(I 173),(I 0),(R 336),(I 176),(I 0),(R 343),(I 179),(I 0),(R 350),(I 188),(I 0),(R 357),(I 197),(I 0),(R 364),(I 209),(I 0),(R 369),(I 219),(I 0),(R 376),(I 221),(I 0),(R 381),(I 232),(I 0),(R 386),(I 247),(I 0),(R 393),(I 252),(I 0),(R 400),(I 257),(I 0),(R 407),(I 263),(I 0),(R 414),(I 266),(I 0),(R 421),(I 269),(I 0),(R 428),(I 272),(I 0),(R 435),(I 277),(I 0),(R 442),(I 281),(I 0),(R 447),(I 283),(I 0),(R 452),(I 292),(I 0),(R 459),(I 298),(I 0),(R 466),(I 308),(I 0),(R 473),(I 313),(I 0),(R 478),(I 319),(I 0),(R 485),(I 323),(I 0),(R 492),(I 327),(I 0),(R 499),(I 336),(I 0),(R 506),(I 338),(I 0),(R 513),(I 341),(I 0),(R 520),(I 345),(I 0),(R 525),(I 349),(I 0),(R 530),(I 369),(I 0),(R 535),(I 377),(I 0),(R 540),(I 379),(I 0),(R 545),(I 386),(I 0),(R 550),(I 393),(I 0),(R 555),(I 399),(I 0),(R 562),(I 405),(I 0),(R 567),(I 407),(I 0),(R 574),(I 412),(I 0),(R 581),(I 427),(I 0),(R 590),(I 434),(I 0),(R 597),(I 446),(I 0),(R 604),(I 455),(I 0),(R 611),(I 460),(I 0),(R 618),(I 464),(I 0),(R 623),(I 466),(I 0),(R 630),(I 470),(I 0),(R 637),(I 473),(I 0),(R 644),(I 563),(I 0),(R 760),(I 568),(I 0),(R 767),(I 573),(I 0),(R 774),(I 581),(I 0),(R 781),(I 590),(I 0),(R 788),(I 594),(I 0),(R 793)],
  co [(S "<module>" 371),(S "<module>" 372),(S "/claim/cut.py" 373),(I 1),(I 0),(I 0),(I 0),(I 0),(R 39),(.bool false),(I 370),(R 40),N,N,N,N,(I 374),(I 1),(S "/claim/cut.py" 375)],
  ⟨(T "frame"), none, .plain, L [(some (R 41)),(some (R 3)),(some (R 3)),none,(some (S "__main__" 164)),none,(some (R 0))]⟩,
  tu [(T "ValueError")],
  ob (T "builtin_function_or_method") (.fields (L [(B "type.__prepare__"),(T "type")])),
  ob (T "dict") (.dict (L [E P "__module__" 385 (S "wholefaces.errors" 376),E P "__qualname__" 387 (S "MeshError" 386),E P "__firstlineno__" 389 (J 3 388),E P "__static_attributes__" 390 (R 50)]) 4),
  tu [],
  fi [],
  co [(S "MeshError" 380),(S "MeshError" 381),(S "/claim/cut.py" 382),(I 3),(I 0),(I 0),(I 0),(I 0),(R 46),(.bool false),(I 370),(R 47),N,N,N,N,(I 383),(I 3),(S "/claim/cut.py" 384)],
  ⟨(T "frame"), none, .plain, L [(some (R 48)),(some (R 3)),(some (R 45)),none,(some (S "wholefaces.errors" 376)),none,(some (R 0))]⟩,
  tu [],
  ob (T "dict") (.dict (L [E P "__module__" 385 (S "wholefaces.errors" 376),E P "__firstlineno__" 389 (J 3 388),E P "__static_attributes__" 390 (R 50),E P "__weakref__" 392 (R 53),E P "__doc__" 393 N]) 3),
  ⟨(T "type"), none, (.cls ⟨"MeshError", [(T "ValueError")], [(R 52),(T "ValueError"),(T "Exception"),(T "BaseException"),(T "object")], 51, "MeshError", true, [], [(R 65),(R 77)], false, none, false⟩), L [(some (R 43)),none,(some (S "MeshError" 378)),(some (S "MeshError" 386)),(some (B "ValueError.__new__")),(some (.bool true))]⟩,
  ob (T "getset_descriptor") (.fields (L [(S "__weakref__" 391),(R 52),(B "ExceptionGroup.__weakref__"),N])),
  ob (T "super") (.fields (L [(R 52),(R 52),(R 52)])),
  ob (T "builtin_function_or_method") (.fields (L [(B "object.__init_subclass__"),(R 52)])),
  tu [(R 52)],
  ob (T "builtin_function_or_method") (.fields (L [(B "type.__prepare__"),(T "type")])),
  ob (T "dict") (.dict (L [E P "__module__" 403 (S "wholefaces.errors" 376),E P "__qualname__" 405 (S "ShapeError" 404),E P "__firstlineno__" 407 (J 5 406),E P "__static_attributes__" 408 (R 63)]) 4),
  tu []]

def os1 (P : Params) : List Obj := [
  fi [],
  co [(S "ShapeError" 398),(S "ShapeError" 399),(S "/claim/cut.py" 400),(I 5),(I 0),(I 0),(I 0),(I 0),(R 59),(.bool false),(I 370),(R 60),N,N,N,N,(I 401),(I 5),(S "/claim/cut.py" 402)],
  ⟨(T "frame"), none, .plain, L [(some (R 61)),(some (R 3)),(some (R 58)),none,(some (S "wholefaces.errors" 376)),none,(some (R 0))]⟩,
  tu [],
  ob (T "dict") (.dict (L [E P "__module__" 403 (S "wholefaces.errors" 376),E P "__firstlineno__" 407 (J 5 406),E P "__static_attributes__" 408 (R 63),E P "__doc__" 409 N]) 2),
  ⟨(T "type"), none, (.cls ⟨"ShapeError", [(R 52)], [(R 65),(R 52),(T "ValueError"),(T "Exception"),(T "BaseException"),(T "object")], 64, "ShapeError", true, [], [(R 96),(R 115),(R 127)], false, none, false⟩), L [(some (R 56)),none,(some (S "ShapeError" 396)),(some (S "ShapeError" 404)),(some (B "ValueError.__new__")),(some (.bool true))]⟩,
  ob (T "super") (.fields (L [(R 65),(R 65),(R 65)])),
  ob (T "builtin_function_or_method") (.fields (L [(B "object.__init_subclass__"),(R 65)])),
  tu [(R 52)],
  ob (T "builtin_function_or_method") (.fields (L [(B "type.__prepare__"),(T "type")])),
  ob (T "dict") (.dict (L [E P "__module__" 419 (S "wholefaces.errors" 376),E P "__qualname__" 421 (S "TextError" 420),E P "__firstlineno__" 423 (J 7 422),E P "__static_attributes__" 424 (R 75)]) 4),
  tu [],
  fi [],
  co [(S "TextError" 414),(S "TextError" 415),(S "/claim/cut.py" 416),(I 7),(I 0),(I 0),(I 0),(I 0),(R 71),(.bool false),(I 370),(R 72),N,N,N,N,(I 417),(I 7),(S "/claim/cut.py" 418)],
  ⟨(T "frame"), none, .plain, L [(some (R 73)),(some (R 3)),(some (R 70)),none,(some (S "wholefaces.errors" 376)),none,(some (R 0))]⟩,
  tu [],
  ob (T "dict") (.dict (L [E P "__module__" 419 (S "wholefaces.errors" 376),E P "__firstlineno__" 423 (J 7 422),E P "__static_attributes__" 424 (R 75),E P "__doc__" 425 N]) 2),
  ⟨(T "type"), none, (.cls ⟨"TextError", [(R 52)], [(R 77),(R 52),(T "ValueError"),(T "Exception"),(T "BaseException"),(T "object")], 76, "TextError", true, [], [(R 146)], false, none, false⟩), L [(some (R 68)),none,(some (S "TextError" 412)),(some (S "TextError" 420)),(some (B "ValueError.__new__")),(some (.bool true))]⟩,
  ob (T "super") (.fields (L [(R 77),(R 77),(R 77)])),
  ob (T "builtin_function_or_method") (.fields (L [(B "object.__init_subclass__"),(R 77)])),
  tu [(R 65)],
  ob (T "builtin_function_or_method") (.fields (L [(B "type.__prepare__"),(T "type")])),
  ob (T "dict") (.dict (L [E P "__module__" 435 (S "wholefaces.errors" 376),E P "__qualname__" 437 (S "NotUsable" 436),E P "__firstlineno__" 439 (J 9 438),E P "__init__" 448 (R 93),E P "__static_attributes__" 451 (R 94)]) 5),
  tu [],
  fi [(I 11),(I 4),(R 92)],
  co [(S "NotUsable" 430),(S "NotUsable" 431),(S "/claim/cut.py" 432),(I 9),(I 0),(I 0),(I 0),(I 0),(R 83),(.bool false),(I 370),(R 84),N,N,N,N,(I 433),(I 9),(S "/claim/cut.py" 434)],
  ⟨(T "frame"), none, .plain, L [(some (R 85)),(some (R 3)),(some (R 82)),none,(some (S "wholefaces.errors" 376)),none,(some (R 0))]⟩,
  tu [],
  fi [],
  tu [(S "self" 443),(S "word" 444),(S "at" 445)],
  tu [],
  ob N (.func ((sm 5 0) "__init__" "NotUsable.__init__" 0 [] N N N N none N N 0)),
  co [(S "__init__" 440),(S "NotUsable.__init__" 441),(S "/claim/cut.py" 442),(I 11),(I 3),(I 0),(I 0),(I 3),(R 87),(.bool true),(I 370),(R 88),N,(R 89),(R 90),(R 91),(I 446),(I 11),(S "/claim/cut.py" 447)],
  ob (T "function") (.func ((sm 5 0) "__init__" "NotUsable.__init__" 3 [] N N N (S "wholefaces.errors" 376) none (R 92) N 0)),
  tu [(S "at" 449),(S "word" 450)],
  ob (T "dict") (.dict (L [E P "__module__" 435 (S "wholefaces.errors" 376),E P "__firstlineno__" 439 (J 9 438),E P "__init__" 448 (R 93),E P "__static_attributes__" 451 (R 94),E P "__doc__" 452 N]) 2),
  ⟨(T "type"), none, (.cls ⟨"NotUsable", [(R 65)], [(R 96),(R 65),(R 52),(T "ValueError"),(T "Exception"),(T "BaseException"),(T "object")], 95, "NotUsable", true, [], [], false, none, false⟩), L [(some (R 80)),none,(some (S "NotUsable" 428)),(some (S "NotUsable" 436)),(some (B "ValueError.__new__")),(some (.bool true))]⟩,
  ob (T "super") (.fields (L [(R 96),(R 96),(R 96)])),
  ob (T "builtin_function_or_method") (.fields (L [(B "object.__init_subclass__"),(R 96)])),
  tu [(R 65)],
  ob (T "builtin_function_or_method") (.fields (L [(B "type.__prepare__"),(T "type")])),
  ob (T "dict") (.dict (L [E P "__module__" 462 (S "wholefaces.errors" 376),E P "__qualname__" 464 (S "CutRoot" 463),E P "__firstlineno__" 466 (J 14 465),E P "__init__" 474 (R 112),E P "__static_attributes__" 476 (R 113)]) 5),
  tu [],
  fi [(I 16),(I 4),(R 111)],
  co [(S "CutRoot" 457),(S "CutRoot" 458),(S "/claim/cut.py" 459),(I 14),(I 0),(I 0),(I 0),(I 0),(R 102),(.bool false),(I 370),(R 103),N,N,N,N,(I 460),(I 14),(S "/claim/cut.py" 461)],
  ⟨(T "frame"), none, .plain, L [(some (R 104)),(some (R 3)),(some (R 101)),none,(some (S "wholefaces.errors" 376)),none,(some (R 0))]⟩,
  tu [],
  fi [],
  tu [(S "self" 470),(S "root" 471)],
  tu [],
  ob N (.func ((sm 6 0) "__init__" "CutRoot.__init__" 0 [] N N N N none N N 0)),
  co [(S "__init__" 467),(S "CutRoot.__init__" 468),(S "/claim/cut.py" 469),(I 16),(I 2),(I 0),(I 0),(I 3),(R 106),(.bool true),(I 370),(R 107),N,(R 108),(R 109),(R 110),(I 472),(I 16),(S "/claim/cut.py" 473)],
  ob (T "function") (.func ((sm 6 0) "__init__" "CutRoot.__init__" 3 [] N N N (S "wholefaces.errors" 376) none (R 111) N 0)),
  tu [(S "root" 475)],
  ob (T "dict") (.dict (L [E P "__module__" 462 (S "wholefaces.errors" 376),E P "__firstlineno__" 466 (J 14 465),E P "__init__" 474 (R 112),E P "__static_attributes__" 476 (R 113),E P "__doc__" 477 N]) 2),
  ⟨(T "type"), none, (.cls ⟨"CutRoot", [(R 65)], [(R 115),(R 65),(R 52),(T "ValueError"),(T "Exception"),(T "BaseException"),(T "object")], 114, "CutRoot", true, [], [], false, none, false⟩), L [(some (R 99)),none,(some (S "CutRoot" 455)),(some (S "CutRoot" 463)),(some (B "ValueError.__new__")),(some (.bool true))]⟩,
  ob (T "super") (.fields (L [(R 115),(R 115),(R 115)])),
  ob (T "builtin_function_or_method") (.fields (L [(B "object.__init_subclass__"),(R 115)])),
  tu [(R 65)],
  ob (T "builtin_function_or_method") (.fields (L [(B "type.__prepare__"),(T "type")]))]

def os2 (P : Params) : List Obj := [
  ob (T "dict") (.dict (L [E P "__module__" 487 (S "wholefaces.errors" 376),E P "__qualname__" 489 (S "EmptySolid" 488),E P "__firstlineno__" 491 (J 18 490),E P "__static_attributes__" 492 (R 125)]) 4),
  tu [],
  fi [],
  co [(S "EmptySolid" 482),(S "EmptySolid" 483),(S "/claim/cut.py" 484),(I 18),(I 0),(I 0),(I 0),(I 0),(R 121),(.bool false),(I 370),(R 122),N,N,N,N,(I 485),(I 18),(S "/claim/cut.py" 486)],
  ⟨(T "frame"), none, .plain, L [(some (R 123)),(some (R 3)),(some (R 120)),none,(some (S "wholefaces.errors" 376)),none,(some (R 0))]⟩,
  tu [],
  ob (T "dict") (.dict (L [E P "__module__" 487 (S "wholefaces.errors" 376),E P "__firstlineno__" 491 (J 18 490),E P "__static_attributes__" 492 (R 125),E P "__doc__" 493 N]) 2),
  ⟨(T "type"), none, (.cls ⟨"EmptySolid", [(R 65)], [(R 127),(R 65),(R 52),(T "ValueError"),(T "Exception"),(T "BaseException"),(T "object")], 126, "EmptySolid", true, [], [], false, none, false⟩), L [(some (R 118)),none,(some (S "EmptySolid" 480)),(some (S "EmptySolid" 488)),(some (B "ValueError.__new__")),(some (.bool true))]⟩,
  ob (T "super") (.fields (L [(R 127),(R 127),(R 127)])),
  ob (T "builtin_function_or_method") (.fields (L [(B "object.__init_subclass__"),(R 127)])),
  tu [(R 77)],
  ob (T "builtin_function_or_method") (.fields (L [(B "type.__prepare__"),(T "type")])),
  ob (T "dict") (.dict (L [E P "__module__" 503 (S "wholefaces.errors" 376),E P "__qualname__" 505 (S "InvalidText" 504),E P "__firstlineno__" 507 (J 20 506),E P "__init__" 516 (R 143),E P "__static_attributes__" 519 (R 144)]) 5),
  tu [],
  fi [(I 22),(I 4),(R 142)],
  co [(S "InvalidText" 498),(S "InvalidText" 499),(S "/claim/cut.py" 500),(I 20),(I 0),(I 0),(I 0),(I 0),(R 133),(.bool false),(I 370),(R 134),N,N,N,N,(I 501),(I 20),(S "/claim/cut.py" 502)],
  ⟨(T "frame"), none, .plain, L [(some (R 135)),(some (R 3)),(some (R 132)),none,(some (S "wholefaces.errors" 376)),none,(some (R 0))]⟩,
  tu [],
  fi [],
  tu [(S "self" 511),(S "line" 512),(S "at" 513)],
  tu [],
  ob N (.func ((sm 8 0) "__init__" "InvalidText.__init__" 0 [] N N N N none N N 0)),
  co [(S "__init__" 508),(S "InvalidText.__init__" 509),(S "/claim/cut.py" 510),(I 22),(I 3),(I 0),(I 0),(I 3),(R 137),(.bool true),(I 370),(R 138),N,(R 139),(R 140),(R 141),(I 514),(I 22),(S "/claim/cut.py" 515)],
  ob (T "function") (.func ((sm 8 0) "__init__" "InvalidText.__init__" 3 [] N N N (S "wholefaces.errors" 376) none (R 142) N 0)),
  tu [(S "at" 517),(S "line" 518)],
  ob (T "dict") (.dict (L [E P "__module__" 503 (S "wholefaces.errors" 376),E P "__firstlineno__" 507 (J 20 506),E P "__init__" 516 (R 143),E P "__static_attributes__" 519 (R 144),E P "__doc__" 520 N]) 2),
  ⟨(T "type"), none, (.cls ⟨"InvalidText", [(R 77)], [(R 146),(R 77),(R 52),(T "ValueError"),(T "Exception"),(T "BaseException"),(T "object")], 145, "InvalidText", true, [], [], false, none, false⟩), L [(some (R 130)),none,(some (S "InvalidText" 496)),(some (S "InvalidText" 504)),(some (B "ValueError.__new__")),(some (.bool true))]⟩,
  ob (T "super") (.fields (L [(R 146),(R 146),(R 146)])),
  ob (T "builtin_function_or_method") (.fields (L [(B "object.__init_subclass__"),(R 146)])),
  tu [],
  fi [],
  tu [(S "thing" 528)],
  tu [],
  ob N (.func ((st 10) "is_integer" "is_integer" 0 [] N N N N none N N 0)),
  co [(S "is_integer" 525),(S "is_integer" 526),(S "/claim/cut.py" 527),(I 26),(I 1),(I 0),(I 0),(I 3),(R 149),(.bool true),(I 370),(R 150),N,(R 151),(R 152),(R 153),(I 529),(I 26),(S "/claim/cut.py" 530)],
  ob (T "function") (.func ((st 10) "is_integer" "is_integer" 3 [] N N N (S "wholefaces.kinds" 523) none (R 154) N 0)),
  tu [],
  fi [],
  tu [(S "thing" 535)],
  tu [],
  ob N (.func ((st 11) "is_number" "is_number" 0 [] N N N N none N N 0)),
  co [(S "is_number" 532),(S "is_number" 533),(S "/claim/cut.py" 534),(I 28),(I 1),(I 0),(I 0),(I 3),(R 156),(.bool true),(I 370),(R 157),N,(R 158),(R 159),(R 160),(I 536),(I 28),(S "/claim/cut.py" 537)],
  ob (T "function") (.func ((st 11) "is_number" "is_number" 3 [] N N N (S "wholefaces.kinds" 523) none (R 161) N 0)),
  tu [],
  fi [],
  tu [(S "thing" 542),(S "top" 543),(S "bottom" 544)],
  tu [],
  ob N (.func ((st 12) "is_quotient" "is_quotient" 0 [] N N N N none N N 0)),
  co [(S "is_quotient" 539),(S "is_quotient" 540),(S "/claim/cut.py" 541),(I 30),(I 1),(I 0),(I 0),(I 3),(R 163),(.bool true),(I 370),(R 164),N,(R 165),(R 166),(R 167),(I 545),(I 30),(S "/claim/cut.py" 546)],
  ob (T "function") (.func ((st 12) "is_quotient" "is_quotient" 3 [] N N N (S "wholefaces.kinds" 523) none (R 168) N 0)),
  tu [],
  fi [],
  tu [(S "thing" 551),(S "dims" 552),(S "rounds" 553)],
  tu [],
  ob N (.func ((st 13) "is_space" "is_space" 0 [] N N N N none N N 0)),
  co [(S "is_space" 548),(S "is_space" 549),(S "/claim/cut.py" 550),(I 37),(I 1),(I 0),(I 0),(I 3),(R 170),(.bool true),(I 370),(R 171),N,(R 172),(R 173),(R 174),(I 554),(I 37),(S "/claim/cut.py" 555)],
  ob (T "function") (.func ((st 13) "is_space" "is_space" 3 [] N N N (S "wholefaces.kinds" 523) none (R 175) N 0)),
  tu [],
  fi [],
  tu [(S "thing" 560),(S "many" 561),(S "one" 562)]]

def os3 (P : Params) : List Obj := [
  tu [],
  ob N (.func ((st 14) "_are_integers" "_are_integers" 0 [] N N N N none N N 0)),
  co [(S "_are_integers" 557),(S "_are_integers" 558),(S "/claim/cut.py" 559),(I 42),(I 2),(I 0),(I 0),(I 3),(R 177),(.bool true),(I 370),(R 178),N,(R 179),(R 180),(R 181),(I 563),(I 42),(S "/claim/cut.py" 564)],
  ob (T "function") (.func ((st 14) "_are_integers" "_are_integers" 3 [] N N N (S "wholefaces.kinds" 523) none (R 182) N 0)),
  tu [],
  fi [],
  tu [(S "space" 569),(S "thing" 570)],
  tu [],
  ob N (.func ((st 15) "is_point" "is_point" 0 [] N N N N none N N 0)),
  co [(S "is_point" 566),(S "is_point" 567),(S "/claim/cut.py" 568),(I 49),(I 2),(I 0),(I 0),(I 3),(R 184),(.bool true),(I 370),(R 185),N,(R 186),(R 187),(R 188),(I 571),(I 49),(S "/claim/cut.py" 572)],
  ob (T "function") (.func ((st 15) "is_point" "is_point" 3 [] N N N (S "wholefaces.kinds" 523) none (R 189) N 0)),
  tu [],
  fi [],
  tu [(S "space" 577),(S "thing" 578),(S "unit" 579),(S "number" 580)],
  tu [],
  ob N (.func ((st 16) "is_new" "is_new" 0 [] N N N N none N N 0)),
  co [(S "is_new" 574),(S "is_new" 575),(S "/claim/cut.py" 576),(I 51),(I 2),(I 0),(I 0),(I 3),(R 191),(.bool true),(I 370),(R 192),N,(R 193),(R 194),(R 195),(I 581),(I 51),(S "/claim/cut.py" 582)],
  ob (T "function") (.func ((st 16) "is_new" "is_new" 3 [] N N N (S "wholefaces.kinds" 523) none (R 196) N 0)),
  tu [],
  fi [],
  tu [(S "space" 587),(S "thing" 588),(S "shared" 589),(S "number" 590)],
  tu [],
  ob N (.func ((st 17) "is_place" "is_place" 0 [] N N N N none N N 0)),
  co [(S "is_place" 584),(S "is_place" 585),(S "/claim/cut.py" 586),(I 59),(I 2),(I 0),(I 0),(I 3),(R 198),(.bool true),(I 370),(R 199),N,(R 200),(R 201),(R 202),(I 591),(I 59),(S "/claim/cut.py" 592)],
  ob (T "function") (.func ((st 17) "is_place" "is_place" 3 [] N N N (S "wholefaces.kinds" 523) none (R 203) N 0)),
  tu [],
  fi [],
  tu [(S "space" 597),(S "thing" 598),(S "corner" 599)],
  tu [],
  ob N (.func ((st 18) "is_body" "is_body" 0 [] N N N N none N N 0)),
  co [(S "is_body" 594),(S "is_body" 595),(S "/claim/cut.py" 596),(I 66),(I 2),(I 0),(I 0),(I 3),(R 205),(.bool true),(I 370),(R 206),N,(R 207),(R 208),(R 209),(I 600),(I 66),(S "/claim/cut.py" 601)],
  ob (T "function") (.func ((st 18) "is_body" "is_body" 3 [] N N N (S "wholefaces.kinds" 523) none (R 210) N 0)),
  tu [],
  fi [],
  tu [(S "body" 608),(S "bits" 609),(S "corner" 610),(S "number" 611)],
  tu [],
  ob N (.func ((st 20) "b_lowest" "b_lowest" 0 [] N N N N none N N 0)),
  co [(S "b_lowest" 605),(S "b_lowest" 606),(S "/claim/cut.py" 607),(I 74),(I 1),(I 0),(I 0),(I 3),(R 212),(.bool true),(I 370),(R 213),N,(R 214),(R 215),(R 216),(I 612),(I 74),(S "/claim/cut.py" 613)],
  ob (T "function") (.func ((st 20) "b_lowest" "b_lowest" 3 [] N N N (S "wholefaces.b_rows" 603) none (R 217) N 0)),
  tu [],
  fi [],
  ob N (.func ((st 21) "b_odd" "b_odd" 0 [] N N N N none N N 0)),
  co [(S "b_odd" 615),(S "b_odd" 616),(S "/claim/cut.py" 617),(I 80),(I 2),(I 0),(I 0),(I 3),(R 219),(.bool true),(I 370),(R 220),N,N,N,(R 221),(I 618),(I 80),(S "/claim/cut.py" 619)],
  ob (T "function") (.func ((st 21) "b_odd" "b_odd" 3 [] N N N (S "wholefaces.b_rows" 603) none (R 222) N 0)),
  tu [],
  fi [],
  ob N (.func ((st 22) "b_even_corners" "b_even_corners" 0 [] N N N N none N N 0)),
  co [(S "b_even_corners" 621),(S "b_even_corners" 622),(S "/claim/cut.py" 623),(I 82),(I 2),(I 0),(I 0),(I 3),(R 224),(.bool true),(I 370),(R 225),N,N,N,(R 226),(I 624),(I 82),(S "/claim/cut.py" 625)],
  ob (T "function") (.func ((st 22) "b_even_corners" "b_even_corners" 3 [] N N N (S "wholefaces.b_rows" 603) none (R 227) N 0)),
  tu [],
  fi [],
  tu [(S "space" 630),(S "block" 631),(S "grain" 632),(S "level" 633)],
  tu [],
  ob N (.func ((st 23) "b_generation" "b_generation" 0 [] N N N N none N N 0)),
  co [(S "b_generation" 627),(S "b_generation" 628),(S "/claim/cut.py" 629),(I 84),(I 2),(I 0),(I 0),(I 3),(R 229),(.bool true),(I 370),(R 230),N,(R 231),(R 232),(R 233),(I 634),(I 84),(S "/claim/cut.py" 635)],
  ob (T "function") (.func ((st 23) "b_generation" "b_generation" 3 [] N N N (S "wholefaces.b_rows" 603) none (R 234) N 0)),
  tu [],
  fi [],
  tu [(S "block" 640),(S "many" 641)],
  tu []]

def os4 (P : Params) : List Obj := [
  ob N (.func ((st 24) "b_reach" "b_reach" 0 [] N N N N none N N 0)),
  co [(S "b_reach" 637),(S "b_reach" 638),(S "/claim/cut.py" 639),(I 88),(I 1),(I 0),(I 0),(I 3),(R 236),(.bool true),(I 370),(R 237),N,(R 238),(R 239),(R 240),(I 642),(I 88),(S "/claim/cut.py" 643)],
  ob (T "function") (.func ((st 24) "b_reach" "b_reach" 3 [] N N N (S "wholefaces.b_rows" 603) none (R 241) N 0)),
  tu [],
  fi [],
  ob N (.func ((st 25) "b_centre" "b_centre" 0 [] N N N N none N N 0)),
  co [(S "b_centre" 645),(S "b_centre" 646),(S "/claim/cut.py" 647),(I 93),(I 2),(I 0),(I 0),(I 3),(R 243),(.bool true),(I 370),(R 244),N,N,N,(R 245),(I 648),(I 93),(S "/claim/cut.py" 649)],
  ob (T "function") (.func ((st 25) "b_centre" "b_centre" 3 [] N N N (S "wholefaces.b_rows" 603) none (R 246) N 0)),
  tu [],
  fi [],
  tu [(S "point" 654),(S "axis" 655),(S "step" 656)],
  tu [],
  ob N (.func ((st 26) "b_moved" "b_moved" 0 [] N N N N none N N 0)),
  co [(S "b_moved" 651),(S "b_moved" 652),(S "/claim/cut.py" 653),(I 95),(I 3),(I 0),(I 0),(I 3),(R 248),(.bool true),(I 370),(R 249),N,(R 250),(R 251),(R 252),(I 657),(I 95),(S "/claim/cut.py" 658)],
  ob (T "function") (.func ((st 26) "b_moved" "b_moved" 3 [] N N N (S "wholefaces.b_rows" 603) none (R 253) N 0)),
  tu [],
  fi [],
  ob N (.func ((st 27) "b_turn" "b_turn" 0 [] N N N N none N N 0)),
  co [(S "b_turn" 660),(S "b_turn" 661),(S "/claim/cut.py" 662),(I 97),(I 2),(I 0),(I 0),(I 3),(R 255),(.bool true),(I 370),(R 256),N,N,N,(R 257),(I 663),(I 97),(S "/claim/cut.py" 664)],
  ob (T "function") (.func ((st 27) "b_turn" "b_turn" 3 [] N N N (S "wholefaces.b_rows" 603) none (R 258) N 0)),
  tu [],
  fi [],
  tu [(S "space" 669),(S "body" 670),(S "grain" 671),(S "steps" 672),(S "many" 673),(S "here" 674),(S "used" 675),(S "place" 676),(S "within" 677),(S "turn" 678)],
  tu [],
  ob N (.func ((st 28) "b_is_row" "b_is_row" 0 [] N N N N none N N 0)),
  co [(S "b_is_row" 666),(S "b_is_row" 667),(S "/claim/cut.py" 668),(I 102),(I 2),(I 0),(I 0),(I 3),(R 260),(.bool true),(I 370),(R 261),N,(R 262),(R 263),(R 264),(I 679),(I 102),(S "/claim/cut.py" 680)],
  ob (T "function") (.func ((st 28) "b_is_row" "b_is_row" 3 [] N N N (S "wholefaces.b_rows" 603) none (R 265) N 0)),
  tu [],
  fi [],
  tu [(S "space" 685),(S "block" 686),(S "word" 687)],
  tu [],
  ob N (.func ((st 29) "b_check" "b_check" 0 [] N N N N none N N 0)),
  co [(S "b_check" 682),(S "b_check" 683),(S "/claim/cut.py" 684),(I 126),(I 3),(I 0),(I 0),(I 3),(R 267),(.bool true),(I 370),(R 268),N,(R 269),(R 270),(R 271),(I 688),(I 126),(S "/claim/cut.py" 689)],
  ob (T "function") (.func ((st 29) "b_check" "b_check" 3 [] N N N (S "wholefaces.b_rows" 603) none (R 272) N 0)),
  tu [],
  fi [],
  tu [(S "block" 694),(S "reach" 695),(S "rest" 696)],
  tu [],
  ob N (.func ((st 30) "b_halves" "b_halves" 0 [] N N N N none N N 0)),
  co [(S "b_halves" 691),(S "b_halves" 692),(S "/claim/cut.py" 693),(I 129),(I 1),(I 0),(I 0),(I 3),(R 274),(.bool true),(I 370),(R 275),N,(R 276),(R 277),(R 278),(I 697),(I 129),(S "/claim/cut.py" 698)],
  ob (T "function") (.func ((st 30) "b_halves" "b_halves" 3 [] N N N (S "wholefaces.b_rows" 603) none (R 279) N 0)),
  tu [],
  fi [],
  tu [(S "space" 703),(S "block" 704),(S "grain" 705),(S "many" 706),(S "first" 707),(S "axis" 708),(S "gap" 709),(S "far" 710)],
  tu [],
  ob N (.func ((st 31) "b_parent" "b_parent" 0 [] N N N N none N N 0)),
  co [(S "b_parent" 700),(S "b_parent" 701),(S "/claim/cut.py" 702),(I 133),(I 2),(I 0),(I 0),(I 3),(R 281),(.bool true),(I 370),(R 282),N,(R 283),(R 284),(R 285),(I 711),(I 133),(S "/claim/cut.py" 712)],
  ob (T "function") (.func ((st 31) "b_parent" "b_parent" 3 [] N N N (S "wholefaces.b_rows" 603) none (R 286) N 0)),
  tu [],
  fi [],
  ob N (.func ((st 32) "b_differences" "b_differences" 0 [] N N N N none N N 0)),
  co [(S "b_differences" 714),(S "b_differences" 715),(S "/claim/cut.py" 716),(I 149),(I 1),(I 0),(I 0),(I 3),(R 288),(.bool true),(I 370),(R 289),N,N,N,(R 290),(I 717),(I 149),(S "/claim/cut.py" 718)],
  ob (T "function") (.func ((st 32) "b_differences" "b_differences" 3 [] N N N (S "wholefaces.b_rows" 603) none (R 291) N 0)),
  tu [],
  fi [],
  ob N (.func ((st 33) "b_determinant" "b_determinant" 0 [] N N N N none N N 0)),
  co [(S "b_determinant" 720),(S "b_determinant" 721),(S "/claim/cut.py" 722),(I 152),(I 1),(I 0),(I 0),(I 3),(R 293),(.bool true),(I 370),(R 294),N,N,N,(R 295),(I 723),(I 152),(S "/claim/cut.py" 724)],
  ob (T "function") (.func ((st 33) "b_determinant" "b_determinant" 3 [] N N N (S "wholefaces.b_rows" 603) none (R 296) N 0)),
  tu [],
  fi []]

def os5 (P : Params) : List Obj := [
  tu [(S "one" 729),(S "other" 730)],
  tu [],
  ob N (.func ((st 34) "b_cross" "b_cross" 0 [] N N N N none N N 0)),
  co [(S "b_cross" 726),(S "b_cross" 727),(S "/claim/cut.py" 728),(I 157),(I 2),(I 0),(I 0),(I 3),(R 298),(.bool true),(I 370),(R 299),N,(R 300),(R 301),(R 302),(I 731),(I 157),(S "/claim/cut.py" 732)],
  ob (T "function") (.func ((st 34) "b_cross" "b_cross" 3 [] N N N (S "wholefaces.b_rows" 603) none (R 303) N 0)),
  tu [],
  fi [],
  tu [(S "space" 739),(S "point" 740)],
  tu [],
  ob N (.func ((st 36) "_look_new" "_look_new" 0 [] N N N N none N N 0)),
  co [(S "_look_new" 736),(S "_look_new" 737),(S "/claim/cut.py" 738),(I 160),(I 2),(I 0),(I 0),(I 3),(R 305),(.bool true),(I 370),(R 306),N,(R 307),(R 308),(R 309),(I 741),(I 160),(S "/claim/cut.py" 742)],
  ob (T "function") (.func ((st 36) "_look_new" "_look_new" 3 [] N N N (S "wholefaces.seats" 734) none (R 310) N 0)),
  tu [],
  fi [],
  tu [(S "point" 747),(S "together" 748),(S "number" 749)],
  tu [],
  ob N (.func ((st 37) "_grain" "_grain" 0 [] N N N N none N N 0)),
  co [(S "_grain" 744),(S "_grain" 745),(S "/claim/cut.py" 746),(I 163),(I 1),(I 0),(I 0),(I 3),(R 312),(.bool true),(I 370),(R 313),N,(R 314),(R 315),(R 316),(I 750),(I 163),(S "/claim/cut.py" 751)],
  ob (T "function") (.func ((st 37) "_grain" "_grain" 3 [] N N N (S "wholefaces.seats" 734) none (R 317) N 0)),
  tu [],
  fi [],
  ob N (.func ((st 38) "_open" "_open" 0 [] N N N N none N N 0)),
  co [(S "_open" 753),(S "_open" 754),(S "/claim/cut.py" 755),(I 168),(I 2),(I 0),(I 0),(I 3),(R 319),(.bool true),(I 370),(R 320),N,N,N,(R 321),(I 756),(I 168),(S "/claim/cut.py" 757)],
  ob (T "function") (.func ((st 38) "_open" "_open" 3 [] N N N (S "wholefaces.seats" 734) none (R 322) N 0)),
  tu [],
  fi [],
  tu [(S "space" 762),(S "point" 763)],
  tu [],
  ob N (.func ((st 39) "grain_of" "grain_of" 0 [] N N N N none N N 0)),
  co [(S "grain_of" 759),(S "grain_of" 760),(S "/claim/cut.py" 761),(I 170),(I 2),(I 0),(I 0),(I 3),(R 324),(.bool true),(I 370),(R 325),N,(R 326),(R 327),(R 328),(I 764),(I 170),(S "/claim/cut.py" 765)],
  ob (T "function") (.func ((st 39) "grain_of" "grain_of" 3 [] N N N (S "wholefaces.seats" 734) none (R 329) N 0)),
  tu [],
  fi [],
  tu [(S "space" 770),(S "point" 771)],
  tu [],
  ob N (.func ((st 40) "open_of" "open_of" 0 [] N N N N none N N 0)),
  co [(S "open_of" 767),(S "open_of" 768),(S "/claim/cut.py" 769),(I 173),(I 2),(I 0),(I 0),(I 3),(R 331),(.bool true),(I 370),(R 332),N,(R 333),(R 334),(R 335),(I 772),(I 173),(S "/claim/cut.py" 773)],
  ob (T "function") (.func ((st 40) "open_of" "open_of" 3 [] N N N (S "wholefaces.seats" 734) none (R 336) N 0)),
  tu [],
  fi [],
  tu [(S "space" 778),(S "point" 779)],
  tu [],
  ob N (.func ((st 41) "level_of" "level_of" 0 [] N N N N none N N 0)),
  co [(S "level_of" 775),(S "level_of" 776),(S "/claim/cut.py" 777),(I 176),(I 2),(I 0),(I 0),(I 3),(R 338),(.bool true),(I 370),(R 339),N,(R 340),(R 341),(R 342),(I 780),(I 176),(S "/claim/cut.py" 781)],
  ob (T "function") (.func ((st 41) "level_of" "level_of" 3 [] N N N (S "wholefaces.seats" 734) none (R 343) N 0)),
  tu [],
  fi [],
  tu [(S "space" 786),(S "point" 787),(S "dims" 788),(S "rounds" 789),(S "grain" 790),(S "level" 791)],
  tu [],
  ob N (.func ((st 42) "generation_of" "generation_of" 0 [] N N N N none N N 0)),
  co [(S "generation_of" 783),(S "generation_of" 784),(S "/claim/cut.py" 785),(I 179),(I 2),(I 0),(I 0),(I 3),(R 345),(.bool true),(I 370),(R 346),N,(R 347),(R 348),(R 349),(I 792),(I 179),(S "/claim/cut.py" 793)],
  ob (T "function") (.func ((st 42) "generation_of" "generation_of" 3 [] N N N (S "wholefaces.seats" 734) none (R 350) N 0)),
  tu [],
  fi [],
  tu [(S "space" 798),(S "point" 799),(S "grain" 800),(S "lows" 801),(S "highs" 802),(S "at" 803)],
  tu [],
  ob N (.func ((st 43) "seat_of" "seat_of" 0 [] N N N N none N N 0)),
  co [(S "seat_of" 795),(S "seat_of" 796),(S "/claim/cut.py" 797),(I 188),(I 2),(I 0),(I 0),(I 3),(R 352),(.bool true),(I 370),(R 353),N,(R 354),(R 355),(R 356),(I 804),(I 188),(S "/claim/cut.py" 805)],
  ob (T "function") (.func ((st 43) "seat_of" "seat_of" 3 [] N N N (S "wholefaces.seats" 734) none (R 357) N 0)),
  tu []]

def os6 (P : Params) : List Obj := [
  fi [],
  tu [(S "space" 810),(S "point" 811),(S "grain" 812),(S "first" 813),(S "last" 814),(S "at" 815),(S "step" 816)],
  tu [],
  ob N (.func ((st 44) "tips_of" "tips_of" 0 [] N N N N none N N 0)),
  co [(S "tips_of" 807),(S "tips_of" 808),(S "/claim/cut.py" 809),(I 197),(I 2),(I 0),(I 0),(I 3),(R 359),(.bool true),(I 370),(R 360),N,(R 361),(R 362),(R 363),(I 817),(I 197),(S "/claim/cut.py" 818)],
  ob (T "function") (.func ((st 44) "tips_of" "tips_of" 3 [] N N N (S "wholefaces.seats" 734) none (R 364) N 0)),
  tu [],
  fi [],
  ob N (.func ((st 45) "seat_corners" "seat_corners" 0 [] N N N N none N N 0)),
  co [(S "seat_corners" 820),(S "seat_corners" 821),(S "/claim/cut.py" 822),(I 209),(I 2),(I 0),(I 0),(I 3),(R 366),(.bool true),(I 370),(R 367),N,N,N,(R 368),(I 823),(I 209),(S "/claim/cut.py" 824)],
  ob (T "function") (.func ((st 45) "seat_corners" "seat_corners" 3 [] N N N (S "wholefaces.seats" 734) none (R 369) N 0)),
  tu [],
  fi [],
  tu [(S "space" 831),(S "point" 832)],
  tu [],
  ob N (.func ((st 47) "key_of" "key_of" 0 [] N N N N none N N 0)),
  co [(S "key_of" 828),(S "key_of" 829),(S "/claim/cut.py" 830),(I 219),(I 2),(I 0),(I 0),(I 3),(R 371),(.bool true),(I 370),(R 372),N,(R 373),(R 374),(R 375),(I 833),(I 219),(S "/claim/cut.py" 834)],
  ob (T "function") (.func ((st 47) "key_of" "key_of" 3 [] N N N (S "wholefaces.orders" 826) none (R 376) N 0)),
  tu [],
  fi [],
  ob N (.func ((st 48) "in_order" "in_order" 0 [] N N N N none N N 0)),
  co [(S "in_order" 836),(S "in_order" 837),(S "/claim/cut.py" 838),(I 221),(I 2),(I 0),(I 0),(I 3),(R 378),(.bool true),(I 370),(R 379),N,N,N,(R 380),(I 839),(I 221),(S "/claim/cut.py" 840)],
  ob (T "function") (.func ((st 48) "in_order" "in_order" 3 [] N N N (S "wholefaces.orders" 826) none (R 381) N 0)),
  tu [],
  fi [],
  ob N (.func ((st 50) "held_points" "held_points" 0 [] N N N N none N N 0)),
  co [(S "held_points" 844),(S "held_points" 845),(S "/claim/cut.py" 846),(I 232),(I 4),(I 0),(I 0),(I 3),(R 383),(.bool true),(I 370),(R 384),N,N,N,(R 385),(I 847),(I 232),(S "/claim/cut.py" 848)],
  ob (T "function") (.func ((st 50) "held_points" "held_points" 3 [] N N N (S "wholefaces.heldpoints" 842) none (R 386) N 0)),
  tu [],
  fi [],
  tu [(S "top" 855),(S "bottom" 856),(S "shared" 857)],
  tu [],
  ob N (.func ((st 52) "_lowest_quotient" "_lowest_quotient" 0 [] N N N N none N N 0)),
  co [(S "_lowest_quotient" 852),(S "_lowest_quotient" 853),(S "/claim/cut.py" 854),(I 247),(I 2),(I 0),(I 0),(I 3),(R 388),(.bool true),(I 370),(R 389),N,(R 390),(R 391),(R 392),(I 858),(I 247),(S "/claim/cut.py" 859)],
  ob (T "function") (.func ((st 52) "_lowest_quotient" "_lowest_quotient" 3 [] N N N (S "wholefaces.quotients" 850) none (R 393) N 0)),
  tu [],
  fi [],
  tu [(S "one" 864),(S "other" 865)],
  tu [],
  ob N (.func ((st 53) "_look_quotients" "_look_quotients" 0 [] N N N N none N N 0)),
  co [(S "_look_quotients" 861),(S "_look_quotients" 862),(S "/claim/cut.py" 863),(I 252),(I 2),(I 0),(I 0),(I 3),(R 395),(.bool true),(I 370),(R 396),N,(R 397),(R 398),(R 399),(I 866),(I 252),(S "/claim/cut.py" 867)],
  ob (T "function") (.func ((st 53) "_look_quotients" "_look_quotients" 3 [] N N N (S "wholefaces.quotients" 850) none (R 400) N 0)),
  tu [],
  fi [],
  tu [(S "top" 872),(S "bottom" 873)],
  tu [],
  ob N (.func ((st 54) "quotient_of" "quotient_of" 0 [] N N N N none N N 0)),
  co [(S "quotient_of" 869),(S "quotient_of" 870),(S "/claim/cut.py" 871),(I 257),(I 2),(I 0),(I 0),(I 3),(R 402),(.bool true),(I 370),(R 403),N,(R 404),(R 405),(R 406),(I 874),(I 257),(S "/claim/cut.py" 875)],
  ob (T "function") (.func ((st 54) "quotient_of" "quotient_of" 3 [] N N N (S "wholefaces.quotients" 850) none (R 407) N 0)),
  tu [],
  fi [],
  tu [(S "one" 880),(S "other" 881)],
  tu [],
  ob N (.func ((st 55) "plus" "plus" 0 [] N N N N none N N 0)),
  co [(S "plus" 877),(S "plus" 878),(S "/claim/cut.py" 879),(I 263),(I 2),(I 0),(I 0),(I 3),(R 409),(.bool true),(I 370),(R 410),N,(R 411),(R 412),(R 413),(I 882),(I 263),(S "/claim/cut.py" 883)],
  ob (T "function") (.func ((st 55) "plus" "plus" 3 [] N N N (S "wholefaces.quotients" 850) none (R 414) N 0)),
  tu [],
  fi [],
  tu [(S "one" 888),(S "other" 889)],
  tu []]

def os7 (P : Params) : List Obj := [
  ob N (.func ((st 56) "minus" "minus" 0 [] N N N N none N N 0)),
  co [(S "minus" 885),(S "minus" 886),(S "/claim/cut.py" 887),(I 266),(I 2),(I 0),(I 0),(I 3),(R 416),(.bool true),(I 370),(R 417),N,(R 418),(R 419),(R 420),(I 890),(I 266),(S "/claim/cut.py" 891)],
  ob (T "function") (.func ((st 56) "minus" "minus" 3 [] N N N (S "wholefaces.quotients" 850) none (R 421) N 0)),
  tu [],
  fi [],
  tu [(S "one" 896),(S "other" 897)],
  tu [],
  ob N (.func ((st 57) "times" "times" 0 [] N N N N none N N 0)),
  co [(S "times" 893),(S "times" 894),(S "/claim/cut.py" 895),(I 269),(I 2),(I 0),(I 0),(I 3),(R 423),(.bool true),(I 370),(R 424),N,(R 425),(R 426),(R 427),(I 898),(I 269),(S "/claim/cut.py" 899)],
  ob (T "function") (.func ((st 57) "times" "times" 3 [] N N N (S "wholefaces.quotients" 850) none (R 428) N 0)),
  tu [],
  fi [],
  tu [(S "one" 904),(S "other" 905)],
  tu [],
  ob N (.func ((st 58) "over" "over" 0 [] N N N N none N N 0)),
  co [(S "over" 901),(S "over" 902),(S "/claim/cut.py" 903),(I 272),(I 2),(I 0),(I 0),(I 3),(R 430),(.bool true),(I 370),(R 431),N,(R 432),(R 433),(R 434),(I 906),(I 272),(S "/claim/cut.py" 907)],
  ob (T "function") (.func ((st 58) "over" "over" 3 [] N N N (S "wholefaces.quotients" 850) none (R 435) N 0)),
  tu [],
  fi [],
  tu [(S "one" 912),(S "other" 913)],
  tu [],
  ob N (.func ((st 59) "less" "less" 0 [] N N N N none N N 0)),
  co [(S "less" 909),(S "less" 910),(S "/claim/cut.py" 911),(I 277),(I 2),(I 0),(I 0),(I 3),(R 437),(.bool true),(I 370),(R 438),N,(R 439),(R 440),(R 441),(I 914),(I 277),(S "/claim/cut.py" 915)],
  ob (T "function") (.func ((st 59) "less" "less" 3 [] N N N (S "wholefaces.quotients" 850) none (R 442) N 0)),
  tu [],
  fi [],
  ob N (.func ((st 61) "_b_dot" "_b_dot" 0 [] N N N N none N N 0)),
  co [(S "_b_dot" 919),(S "_b_dot" 920),(S "/claim/cut.py" 921),(I 281),(I 2),(I 0),(I 0),(I 3),(R 444),(.bool true),(I 370),(R 445),N,N,N,(R 446),(I 922),(I 281),(S "/claim/cut.py" 923)],
  ob (T "function") (.func ((st 61) "_b_dot" "_b_dot" 3 [] N N N (S "wholefaces.angles" 917) none (R 447) N 0)),
  tu [],
  fi [],
  ob N (.func ((st 62) "_b_normals" "_b_normals" 0 [] N N N N none N N 0)),
  co [(S "_b_normals" 925),(S "_b_normals" 926),(S "/claim/cut.py" 927),(I 283),(I 1),(I 0),(I 0),(I 3),(R 449),(.bool true),(I 370),(R 450),N,N,N,(R 451),(I 928),(I 283),(S "/claim/cut.py" 929)],
  ob (T "function") (.func ((st 62) "_b_normals" "_b_normals" 3 [] N N N (S "wholefaces.angles" 917) none (R 452) N 0)),
  tu [],
  fi [],
  tu [(S "one" 934),(S "other" 935),(S "dot" 936),(S "square" 937)],
  tu [],
  ob N (.func ((st 63) "_b_cosine" "_b_cosine" 0 [] N N N N none N N 0)),
  co [(S "_b_cosine" 931),(S "_b_cosine" 932),(S "/claim/cut.py" 933),(I 292),(I 2),(I 0),(I 0),(I 3),(R 454),(.bool true),(I 370),(R 455),N,(R 456),(R 457),(R 458),(I 938),(I 292),(S "/claim/cut.py" 939)],
  ob (T "function") (.func ((st 63) "_b_cosine" "_b_cosine" 3 [] N N N (S "wholefaces.angles" 917) none (R 459) N 0)),
  tu [],
  fi [],
  tu [(S "cosine" 944)],
  tu [],
  ob N (.func ((st 64) "_b_degrees" "_b_degrees" 0 [] N N N N none N N 0)),
  co [(S "_b_degrees" 941),(S "_b_degrees" 942),(S "/claim/cut.py" 943),(I 298),(I 1),(I 0),(I 0),(I 3),(R 461),(.bool true),(I 370),(R 462),N,(R 463),(R 464),(R 465),(I 945),(I 298),(S "/claim/cut.py" 946)],
  ob (T "function") (.func ((st 64) "_b_degrees" "_b_degrees" 3 [] N N N (S "wholefaces.angles" 917) none (R 466) N 0)),
  tu [],
  fi [],
  tu [(S "body" 951),(S "one" 952),(S "other" 953)],
  tu [],
  ob N (.func ((st 65) "_b_check_sides" "_b_check_sides" 0 [] N N N N none N N 0)),
  co [(S "_b_check_sides" 948),(S "_b_check_sides" 949),(S "/claim/cut.py" 950),(I 308),(I 3),(I 0),(I 0),(I 3),(R 468),(.bool true),(I 370),(R 469),N,(R 470),(R 471),(R 472),(I 954),(I 308),(S "/claim/cut.py" 955)],
  ob (T "function") (.func ((st 65) "_b_check_sides" "_b_check_sides" 3 [] N N N (S "wholefaces.angles" 917) none (R 473) N 0)),
  tu [],
  fi [],
  ob N (.func ((st 66) "lengths_of" "lengths_of" 0 [] N N N N none N N 0)),
  co [(S "lengths_of" 957),(S "lengths_of" 958),(S "/claim/cut.py" 959),(I 313),(I 1),(I 0),(I 0),(I 3),(R 475),(.bool true),(I 370),(R 476),N,N,N,(R 477),(I 960),(I 313),(S "/claim/cut.py" 961)],
  ob (T "function") (.func ((st 66) "lengths_of" "lengths_of" 3 [] N N N (S "wholefaces.angles" 917) none (R 478) N 0))]

def os8 (P : Params) : List Obj := [
  tu [],
  fi [],
  tu [(S "body" 966),(S "one" 967),(S "other" 968),(S "normals" 969)],
  tu [],
  ob N (.func ((st 67) "cosine_of" "cosine_of" 0 [] N N N N none N N 0)),
  co [(S "cosine_of" 963),(S "cosine_of" 964),(S "/claim/cut.py" 965),(I 319),(I 3),(I 0),(I 0),(I 3),(R 480),(.bool true),(I 370),(R 481),N,(R 482),(R 483),(R 484),(I 970),(I 319),(S "/claim/cut.py" 971)],
  ob (T "function") (.func ((st 67) "cosine_of" "cosine_of" 3 [] N N N (S "wholefaces.angles" 917) none (R 485) N 0)),
  tu [],
  fi [],
  tu [(S "body" 976),(S "one" 977),(S "other" 978),(S "normals" 979)],
  tu [],
  ob N (.func ((st 68) "degrees_of" "degrees_of" 0 [] N N N N none N N 0)),
  co [(S "degrees_of" 973),(S "degrees_of" 974),(S "/claim/cut.py" 975),(I 323),(I 3),(I 0),(I 0),(I 3),(R 487),(.bool true),(I 370),(R 488),N,(R 489),(R 490),(R 491),(I 980),(I 323),(S "/claim/cut.py" 981)],
  ob (T "function") (.func ((st 68) "degrees_of" "degrees_of" 3 [] N N N (S "wholefaces.angles" 917) none (R 492) N 0)),
  tu [],
  fi [],
  tu [(S "space" 986),(S "block" 987),(S "found" 988),(S "normals" 989),(S "at" 990),(S "one" 991),(S "other" 992)],
  tu [],
  ob N (.func ((st 69) "angles_of" "angles_of" 0 [] N N N N none N N 0)),
  co [(S "angles_of" 983),(S "angles_of" 984),(S "/claim/cut.py" 985),(I 327),(I 2),(I 0),(I 0),(I 3),(R 494),(.bool true),(I 370),(R 495),N,(R 496),(R 497),(R 498),(I 993),(I 327),(S "/claim/cut.py" 994)],
  ob (T "function") (.func ((st 69) "angles_of" "angles_of" 3 [] N N N (S "wholefaces.angles" 917) none (R 499) N 0)),
  tu [],
  fi [],
  tu [(S "body" 1001)],
  tu [],
  ob N (.func ((st 71) "measure_of" "measure_of" 0 [] N N N N none N N 0)),
  co [(S "measure_of" 998),(S "measure_of" 999),(S "/claim/cut.py" 1000),(I 336),(I 1),(I 0),(I 0),(I 3),(R 501),(.bool true),(I 370),(R 502),N,(R 503),(R 504),(R 505),(I 1002),(I 336),(S "/claim/cut.py" 1003)],
  ob (T "function") (.func ((st 71) "measure_of" "measure_of" 3 [] N N N (S "wholefaces.measures" 996) none (R 506) N 0)),
  tu [],
  fi [],
  tu [(S "body" 1008)],
  tu [],
  ob N (.func ((st 72) "is_flat" "is_flat" 0 [] N N N N none N N 0)),
  co [(S "is_flat" 1005),(S "is_flat" 1006),(S "/claim/cut.py" 1007),(I 338),(I 1),(I 0),(I 0),(I 3),(R 508),(.bool true),(I 370),(R 509),N,(R 510),(R 511),(R 512),(I 1009),(I 338),(S "/claim/cut.py" 1010)],
  ob (T "function") (.func ((st 72) "is_flat" "is_flat" 3 [] N N N (S "wholefaces.measures" 996) none (R 513) N 0)),
  tu [],
  fi [],
  tu [(S "bodies" 1017)],
  tu [],
  ob N (.func ((st 74) "side_book" "side_book" 0 [] N N N N none N N 0)),
  co [(S "side_book" 1014),(S "side_book" 1015),(S "/claim/cut.py" 1016),(I 341),(I 1),(I 0),(I 0),(I 3),(R 515),(.bool true),(I 370),(R 516),N,(R 517),(R 518),(R 519),(I 1018),(I 341),(S "/claim/cut.py" 1019)],
  ob (T "function") (.func ((st 74) "side_book" "side_book" 3 [] N N N (S "wholefaces.borders" 1012) none (R 520) N 0)),
  tu [],
  fi [],
  ob N (.func ((st 75) "border_sides" "border_sides" 0 [] N N N N none N N 0)),
  co [(S "border_sides" 1021),(S "border_sides" 1022),(S "/claim/cut.py" 1023),(I 345),(I 1),(I 0),(I 0),(I 3),(R 522),(.bool true),(I 370),(R 523),N,N,N,(R 524),(I 1024),(I 345),(S "/claim/cut.py" 1025)],
  ob (T "function") (.func ((st 75) "border_sides" "border_sides" 3 [] N N N (S "wholefaces.borders" 1012) none (R 525) N 0)),
  tu [],
  fi [],
  ob N (.func ((st 76) "pieces_of" "pieces_of" 0 [] N N N N none N N 0)),
  co [(S "pieces_of" 1027),(S "pieces_of" 1028),(S "/claim/cut.py" 1029),(I 349),(I 1),(I 0),(I 0),(I 3),(R 527),(.bool true),(I 370),(R 528),N,N,N,(R 529),(I 1030),(I 349),(S "/claim/cut.py" 1031)],
  ob (T "function") (.func ((st 76) "pieces_of" "pieces_of" 3 [] N N N (S "wholefaces.borders" 1012) none (R 530) N 0)),
  tu [],
  fi [],
  ob N (.func ((st 77) "euler_of" "euler_of" 0 [] N N N N none N N 0)),
  co [(S "euler_of" 1033),(S "euler_of" 1034),(S "/claim/cut.py" 1035),(I 369),(I 1),(I 0),(I 0),(I 3),(R 532),(.bool true),(I 370),(R 533),N,N,N,(R 534),(I 1036),(I 369),(S "/claim/cut.py" 1037)],
  ob (T "function") (.func ((st 77) "euler_of" "euler_of" 3 [] N N N (S "wholefaces.borders" 1012) none (R 535) N 0)),
  tu [],
  fi [],
  ob N (.func ((st 78) "solid_measure" "solid_measure" 0 [] N N N N none N N 0))]

def os9 (P : Params) : List Obj := [
  co [(S "solid_measure" 1039),(S "solid_measure" 1040),(S "/claim/cut.py" 1041),(I 377),(I 1),(I 0),(I 0),(I 3),(R 537),(.bool true),(I 370),(R 538),N,N,N,(R 539),(I 1042),(I 377),(S "/claim/cut.py" 1043)],
  ob (T "function") (.func ((st 78) "solid_measure" "solid_measure" 3 [] N N N (S "wholefaces.borders" 1012) none (R 540) N 0)),
  tu [],
  fi [],
  ob N (.func ((st 79) "_c_bodies_fit" "_c_bodies_fit" 0 [] N N N N none N N 0)),
  co [(S "_c_bodies_fit" 1045),(S "_c_bodies_fit" 1046),(S "/claim/cut.py" 1047),(I 379),(I 1),(I 0),(I 0),(I 3),(R 542),(.bool true),(I 370),(R 543),N,N,N,(R 544),(I 1048),(I 379),(S "/claim/cut.py" 1049)],
  ob (T "function") (.func ((st 79) "_c_bodies_fit" "_c_bodies_fit" 3 [] N N N (S "wholefaces.borders" 1012) none (R 545) N 0)),
  tu [],
  fi [],
  ob N (.func ((st 80) "_c_sides" "_c_sides" 0 [] N N N N none N N 0)),
  co [(S "_c_sides" 1051),(S "_c_sides" 1052),(S "/claim/cut.py" 1053),(I 386),(I 1),(I 0),(I 0),(I 3),(R 547),(.bool true),(I 370),(R 548),N,N,N,(R 549),(I 1054),(I 386),(S "/claim/cut.py" 1055)],
  ob (T "function") (.func ((st 80) "_c_sides" "_c_sides" 3 [] N N N (S "wholefaces.borders" 1012) none (R 550) N 0)),
  tu [],
  fi [],
  ob N (.func ((st 81) "_c_faces" "_c_faces" 0 [] N N N N none N N 0)),
  co [(S "_c_faces" 1057),(S "_c_faces" 1058),(S "/claim/cut.py" 1059),(I 393),(I 1),(I 0),(I 0),(I 3),(R 552),(.bool true),(I 370),(R 553),N,N,N,(R 554),(I 1060),(I 393),(S "/claim/cut.py" 1061)],
  ob (T "function") (.func ((st 81) "_c_faces" "_c_faces" 3 [] N N N (S "wholefaces.borders" 1012) none (R 555) N 0)),
  tu [],
  fi [],
  tu [(S "space" 1068),(S "block" 1069),(S "one" 1070),(S "other" 1071)],
  tu [],
  ob N (.func ((st 83) "_b_check_edge" "_b_check_edge" 0 [] N N N N none N N 0)),
  co [(S "_b_check_edge" 1065),(S "_b_check_edge" 1066),(S "/claim/cut.py" 1067),(I 399),(I 4),(I 0),(I 0),(I 3),(R 557),(.bool true),(I 370),(R 558),N,(R 559),(R 560),(R 561),(I 1072),(I 399),(S "/claim/cut.py" 1073)],
  ob (T "function") (.func ((st 83) "_b_check_edge" "_b_check_edge" 3 [] N N N (S "wholefaces.edges" 1063) none (R 562) N 0)),
  tu [],
  fi [],
  ob N (.func ((st 84) "_b_has_centre" "_b_has_centre" 0 [] N N N N none N N 0)),
  co [(S "_b_has_centre" 1075),(S "_b_has_centre" 1076),(S "/claim/cut.py" 1077),(I 405),(I 2),(I 0),(I 0),(I 3),(R 564),(.bool true),(I 370),(R 565),N,N,N,(R 566),(I 1078),(I 405),(S "/claim/cut.py" 1079)],
  ob (T "function") (.func ((st 84) "_b_has_centre" "_b_has_centre" 3 [] N N N (S "wholefaces.edges" 1063) none (R 567) N 0)),
  tu [],
  fi [],
  tu [(S "space" 1084),(S "block" 1085),(S "one" 1086),(S "other" 1087)],
  tu [],
  ob N (.func ((st 85) "half_way" "half_way" 0 [] N N N N none N N 0)),
  co [(S "half_way" 1081),(S "half_way" 1082),(S "/claim/cut.py" 1083),(I 407),(I 4),(I 0),(I 0),(I 3),(R 569),(.bool true),(I 370),(R 570),N,(R 571),(R 572),(R 573),(I 1088),(I 407),(S "/claim/cut.py" 1089)],
  ob (T "function") (.func ((st 85) "half_way" "half_way" 3 [] N N N (S "wholefaces.edges" 1063) none (R 574) N 0)),
  tu [],
  fi [],
  tu [(S "space" 1094),(S "block" 1095),(S "one" 1096),(S "other" 1097),(S "dims" 1098),(S "reach" 1099)],
  tu [],
  ob N (.func ((st 86) "road_to" "road_to" 0 [] N N N N none N N 0)),
  co [(S "road_to" 1091),(S "road_to" 1092),(S "/claim/cut.py" 1093),(I 412),(I 4),(I 0),(I 0),(I 3),(R 576),(.bool true),(I 370),(R 577),N,(R 578),(R 579),(R 580),(I 1100),(I 412),(S "/claim/cut.py" 1101)],
  ob (T "function") (.func ((st 86) "road_to" "road_to" 3 [] N N N (S "wholefaces.edges" 1063) none (R 581) N 0)),
  tu [(S "<=" 1109),(S ">=" 1110),(S "<" 1111),(S ">" 1112),(S "=" 1113),(S "(" 1114),(S ")" 1115),(S "," 1116),(S ":" 1117),(S "+" 1118),(S "-" 1119),(S "*" 1120)],
  tu [(S "space" 1122),(S "rounds" 1123),(S "cubes" 1124),(S "deep" 1125),(S "region" 1126),(S "solid" 1127),(S "field" 1128),(S "worth" 1129),(S "wish" 1130),(S "all" 1131),(S "box" 1132),(S "upto" 1133),(S "not" 1134),(S "and" 1135),(S "or" 1136),(S "x" 1137),(S "y" 1138),(S "z" 1139),(S "min" 1140),(S "max" 1141),(S "abs" 1142),(S "generation" 1143),(S "level" 1144),(S "stage" 1145),(S "size" 1146),(S "low" 1147),(S "high" 1148),(S "least" 1149),(S "most" 1150),(S "error" 1151),(S "in" 1152),(S "out" 1153),(S "cut" 1154),(S "has" 1155),(S "corner" 1156),(S "bad" 1157)],
  tu [],
  fi [],
  tu [(S "text" 1162),(S "pairs" 1163),(S "wrong" 1164)],
  tu [],
  ob N (.func ((st 92) "words_of" "words_of" 0 [] N N N N none N N 0)),
  co [(S "words_of" 1159),(S "words_of" 1160),(S "/claim/cut.py" 1161),(I 427),(I 1),(I 0),(I 0),(I 3),(R 585),(.bool true),(I 370),(R 586),N,(R 587),(R 588),(R 589),(I 1165),(I 427),(S "/claim/cut.py" 1166)],
  ob (T "function") (.func ((st 92) "words_of" "words_of" 3 [] N N N (S "wholefaces.words" 1103) none (R 590) N 0)),
  tu [],
  fi [],
  tu [(S "text" 1171),(S "pairs" 1172),(S "at" 1173),(S "end" 1174)],
  tu [],
  ob N (.func ((st 93) "_c_scanned" "_c_scanned" 0 [] N N N N none N N 0)),
  co [(S "_c_scanned" 1168),(S "_c_scanned" 1169),(S "/claim/cut.py" 1170),(I 434),(I 1),(I 0),(I 0),(I 3),(R 592),(.bool true),(I 370),(R 593),N,(R 594),(R 595),(R 596),(I 1175),(I 434),(S "/claim/cut.py" 1176)],
  ob (T "function") (.func ((st 93) "_c_scanned" "_c_scanned" 3 [] N N N (S "wholefaces.words" 1103) none (R 597) N 0)),
  tu []]

def os10 (P : Params) : List Obj := [
  fi [],
  tu [(S "text" 1181),(S "at" 1182),(S "mark" 1183)],
  tu [],
  ob N (.func ((st 94) "_c_word_end" "_c_word_end" 0 [] N N N N none N N 0)),
  co [(S "_c_word_end" 1178),(S "_c_word_end" 1179),(S "/claim/cut.py" 1180),(I 446),(I 2),(I 0),(I 0),(I 3),(R 599),(.bool true),(I 370),(R 600),N,(R 601),(R 602),(R 603),(I 1184),(I 446),(S "/claim/cut.py" 1185)],
  ob (T "function") (.func ((st 94) "_c_word_end" "_c_word_end" 3 [] N N N (S "wholefaces.words" 1103) none (R 604) N 0)),
  tu [],
  fi [],
  tu [(S "text" 1190),(S "at" 1191),(S "signs" 1192),(S "end" 1193)],
  tu [],
  ob N (.func ((st 95) "_c_row_end" "_c_row_end" 0 [] N N N N none N N 0)),
  co [(S "_c_row_end" 1187),(S "_c_row_end" 1188),(S "/claim/cut.py" 1189),(I 455),(I 3),(I 0),(I 0),(I 3),(R 606),(.bool true),(I 370),(R 607),N,(R 608),(R 609),(R 610),(I 1194),(I 455),(S "/claim/cut.py" 1195)],
  ob (T "function") (.func ((st 95) "_c_row_end" "_c_row_end" 3 [] N N N (S "wholefaces.words" 1103) none (R 611) N 0)),
  tu [],
  fi [],
  tu [(S "thing" 1200)],
  tu [],
  ob N (.func ((st 96) "_c_is_word_name" "_c_is_word_name" 0 [] N N N N none N N 0)),
  co [(S "_c_is_word_name" 1197),(S "_c_is_word_name" 1198),(S "/claim/cut.py" 1199),(I 460),(I 1),(I 0),(I 0),(I 3),(R 613),(.bool true),(I 370),(R 614),N,(R 615),(R 616),(R 617),(I 1201),(I 460),(S "/claim/cut.py" 1202)],
  ob (T "function") (.func ((st 96) "_c_is_word_name" "_c_is_word_name" 3 [] N N N (S "wholefaces.words" 1103) none (R 618) N 0)),
  tu [],
  fi [],
  ob N (.func ((st 97) "_c_are_names" "_c_are_names" 0 [] N N N N none N N 0)),
  co [(S "_c_are_names" 1204),(S "_c_are_names" 1205),(S "/claim/cut.py" 1206),(I 464),(I 1),(I 0),(I 0),(I 3),(R 620),(.bool true),(I 370),(R 621),N,N,N,(R 622),(I 1207),(I 464),(S "/claim/cut.py" 1208)],
  ob (T "function") (.func ((st 97) "_c_are_names" "_c_are_names" 3 [] N N N (S "wholefaces.words" 1103) none (R 623) N 0)),
  tu [],
  fi [],
  tu [(S "word" 1213)],
  tu [],
  ob N (.func ((st 98) "_c_is_number_word" "_c_is_number_word" 0 [] N N N N none N N 0)),
  co [(S "_c_is_number_word" 1210),(S "_c_is_number_word" 1211),(S "/claim/cut.py" 1212),(I 466),(I 1),(I 0),(I 0),(I 3),(R 625),(.bool true),(I 370),(R 626),N,(R 627),(R 628),(R 629),(I 1214),(I 466),(S "/claim/cut.py" 1215)],
  ob (T "function") (.func ((st 98) "_c_is_number_word" "_c_is_number_word" 3 [] N N N (S "wholefaces.words" 1103) none (R 630) N 0)),
  tu [],
  fi [],
  tu [(S "thing" 1220)],
  tu [],
  ob N (.func ((st 99) "_c_is_path" "_c_is_path" 0 [] N N N N none N N 0)),
  co [(S "_c_is_path" 1217),(S "_c_is_path" 1218),(S "/claim/cut.py" 1219),(I 470),(I 1),(I 0),(I 0),(I 3),(R 632),(.bool true),(I 370),(R 633),N,(R 634),(R 635),(R 636),(I 1221),(I 470),(S "/claim/cut.py" 1222)],
  ob (T "function") (.func ((st 99) "_c_is_path" "_c_is_path" 3 [] N N N (S "wholefaces.words" 1103) none (R 637) N 0)),
  tu [],
  ob (T "builtin_function_or_method") (.fields (L [(B "type.__prepare__"),(T "type")])),
  ob (T "dict") (.dict (L [E P "__module__" 1233 (S "wholefaces.c_reader" 1224),E P "__qualname__" 1235 (S "WordReader" 1234),E P "__firstlineno__" 1237 (J 473 1236),E P "__init__" 1248 (R 652),E P "coming" 1255 (R 659),E P "refuse" 1262 (R 666),E P "comes" 1270 (R 673),E P "want" 1278 (R 680),E P "one_of" 1287 (R 687),E P "finish" 1294 (R 694),E P "take_number" 1306 (R 702),E P "take_integer" 1317 (R 710),E P "take_point" 1328 (R 718),E P "take_axis" 1339 (R 726),E P "take_sign" 1346 (R 733),E P "take_name" 1355 (R 740),E P "take_block" 1366 (R 747),E P "__static_attributes__" 1371 (R 748)]) 18),
  tu [],
  fi [(I 475),(I 4),(R 651),(I 484),(I 4),(R 658),(I 487),(I 4),(R 665),(I 490),(I 4),(R 672),(I 496),(I 4),(R 679),(I 500),(I 4),(R 686),(I 507),(I 4),(R 693),(I 511),(I 4),(R 701),(I 520),(I 4),(R 709),(I 530),(I 4),(R 717),(I 538),(I 4),(R 725),(I 546),(I 4),(R 732),(I 549),(I 4),(R 739),(I 556),(I 4),(R 746)],
  co [(S "WordReader" 1228),(S "WordReader" 1229),(S "/claim/cut.py" 1230),(I 473),(I 0),(I 0),(I 0),(I 0),(R 642),(.bool false),(I 370),(R 643),N,N,N,N,(I 1231),(I 473),(S "/claim/cut.py" 1232)],
  ⟨(T "frame"), none, .plain, L [(some (R 644)),(some (R 3)),(some (R 641)),none,(some (S "wholefaces.c_reader" 1224)),none,(some (R 0))]⟩,
  tu [],
  fi [],
  tu [(S "self" 1241),(S "row" 1242),(S "text" 1243),(S "pairs" 1244),(S "wrong" 1245)],
  tu [],
  ob N (.func ((sm 101 0) "__init__" "WordReader.__init__" 0 [] N N N N none N N 0)),
  co [(S "__init__" 1238),(S "WordReader.__init__" 1239),(S "/claim/cut.py" 1240),(I 475),(I 3),(I 0),(I 0),(I 3),(R 646),(.bool true),(I 370),(R 647),N,(R 648),(R 649),(R 650),(I 1246),(I 475),(S "/claim/cut.py" 1247)],
  ob (T "function") (.func ((sm 101 0) "__init__" "WordReader.__init__" 3 [] N N N (S "wholefaces.c_reader" 1224) none (R 651) N 0)),
  tu [],
  fi [],
  tu [(S "self" 1252)],
  tu [],
  ob N (.func ((sm 101 1) "coming" "WordReader.coming" 0 [] N N N N none N N 0)),
  co [(S "coming" 1249),(S "WordReader.coming" 1250),(S "/claim/cut.py" 1251),(I 484),(I 1),(I 0),(I 0),(I 3),(R 653),(.bool true),(I 370),(R 654),N,(R 655),(R 656),(R 657),(I 1253),(I 484),(S "/claim/cut.py" 1254)],
  ob (T "function") (.func ((sm 101 1) "coming" "WordReader.coming" 3 [] N N N (S "wholefaces.c_reader" 1224) none (R 658) N 0))]

def os11 (P : Params) : List Obj := [
  tu [],
  fi [],
  tu [(S "self" 1259)],
  tu [],
  ob N (.func ((sm 101 2) "refuse" "WordReader.refuse" 0 [] N N N N none N N 0)),
  co [(S "refuse" 1256),(S "WordReader.refuse" 1257),(S "/claim/cut.py" 1258),(I 487),(I 1),(I 0),(I 0),(I 3),(R 660),(.bool true),(I 370),(R 661),N,(R 662),(R 663),(R 664),(I 1260),(I 487),(S "/claim/cut.py" 1261)],
  ob (T "function") (.func ((sm 101 2) "refuse" "WordReader.refuse" 3 [] N N N (S "wholefaces.c_reader" 1224) none (R 665) N 0)),
  tu [],
  fi [],
  tu [(S "self" 1266),(S "word" 1267)],
  tu [],
  ob N (.func ((sm 101 3) "comes" "WordReader.comes" 0 [] N N N N none N N 0)),
  co [(S "comes" 1263),(S "WordReader.comes" 1264),(S "/claim/cut.py" 1265),(I 490),(I 2),(I 0),(I 0),(I 3),(R 667),(.bool true),(I 370),(R 668),N,(R 669),(R 670),(R 671),(I 1268),(I 490),(S "/claim/cut.py" 1269)],
  ob (T "function") (.func ((sm 101 3) "comes" "WordReader.comes" 3 [] N N N (S "wholefaces.c_reader" 1224) none (R 672) N 0)),
  tu [],
  fi [],
  tu [(S "self" 1274),(S "word" 1275)],
  tu [],
  ob N (.func ((sm 101 4) "want" "WordReader.want" 0 [] N N N N none N N 0)),
  co [(S "want" 1271),(S "WordReader.want" 1272),(S "/claim/cut.py" 1273),(I 496),(I 2),(I 0),(I 0),(I 3),(R 674),(.bool true),(I 370),(R 675),N,(R 676),(R 677),(R 678),(I 1276),(I 496),(S "/claim/cut.py" 1277)],
  ob (T "function") (.func ((sm 101 4) "want" "WordReader.want" 3 [] N N N (S "wholefaces.c_reader" 1224) none (R 679) N 0)),
  tu [],
  fi [],
  tu [(S "self" 1282),(S "words" 1283),(S "word" 1284)],
  tu [],
  ob N (.func ((sm 101 5) "one_of" "WordReader.one_of" 0 [] N N N N none N N 0)),
  co [(S "one_of" 1279),(S "WordReader.one_of" 1280),(S "/claim/cut.py" 1281),(I 500),(I 2),(I 0),(I 0),(I 3),(R 681),(.bool true),(I 370),(R 682),N,(R 683),(R 684),(R 685),(I 1285),(I 500),(S "/claim/cut.py" 1286)],
  ob (T "function") (.func ((sm 101 5) "one_of" "WordReader.one_of" 3 [] N N N (S "wholefaces.c_reader" 1224) none (R 686) N 0)),
  tu [],
  fi [],
  tu [(S "self" 1291)],
  tu [],
  ob N (.func ((sm 101 6) "finish" "WordReader.finish" 0 [] N N N N none N N 0)),
  co [(S "finish" 1288),(S "WordReader.finish" 1289),(S "/claim/cut.py" 1290),(I 507),(I 1),(I 0),(I 0),(I 3),(R 688),(.bool true),(I 370),(R 689),N,(R 690),(R 691),(R 692),(I 1292),(I 507),(S "/claim/cut.py" 1293)],
  ob (T "function") (.func ((sm 101 6) "finish" "WordReader.finish" 3 [] N N N (S "wholefaces.c_reader" 1224) none (R 693) N 0)),
  tu [(J 0 1295),(J 9999999 1296)],
  tu [],
  fi [],
  tu [(S "self" 1300),(S "least" 1301),(S "most" 1302),(S "number" 1303)],
  tu [],
  ob N (.func ((sm 101 7) "take_number" "WordReader.take_number" 0 [] N N N N none N N 0)),
  co [(S "take_number" 1297),(S "WordReader.take_number" 1298),(S "/claim/cut.py" 1299),(I 511),(I 3),(I 0),(I 0),(I 3),(R 696),(.bool true),(I 370),(R 697),N,(R 698),(R 699),(R 700),(I 1304),(I 511),(S "/claim/cut.py" 1305)],
  ob (T "function") (.func ((sm 101 7) "take_number" "WordReader.take_number" 3 [] (R 695) N N (S "wholefaces.c_reader" 1224) none (R 701) N 0)),
  tu [N,(.bool false)],
  tu [],
  fi [],
  tu [(S "self" 1310),(S "low" 1311),(S "even" 1312),(S "minus" 1313),(S "integer" 1314)],
  tu [],
  ob N (.func ((sm 101 8) "take_integer" "WordReader.take_integer" 0 [] N N N N none N N 0)),
  co [(S "take_integer" 1307),(S "WordReader.take_integer" 1308),(S "/claim/cut.py" 1309),(I 520),(I 3),(I 0),(I 0),(I 3),(R 704),(.bool true),(I 370),(R 705),N,(R 706),(R 707),(R 708),(I 1315),(I 520),(S "/claim/cut.py" 1316)],
  ob (T "function") (.func ((sm 101 8) "take_integer" "WordReader.take_integer" 3 [] (R 703) N N (S "wholefaces.c_reader" 1224) none (R 709) N 0)),
  tu [N],
  tu [],
  fi [],
  tu [(S "self" 1321),(S "dims" 1322),(S "lows" 1323),(S "numbers" 1324),(S "k" 1325)],
  tu [],
  ob N (.func ((sm 101 9) "take_point" "WordReader.take_point" 0 [] N N N N none N N 0)),
  co [(S "take_point" 1318),(S "WordReader.take_point" 1319),(S "/claim/cut.py" 1320),(I 530),(I 3),(I 0),(I 0),(I 3),(R 712),(.bool true),(I 370),(R 713),N,(R 714),(R 715),(R 716),(I 1326),(I 530),(S "/claim/cut.py" 1327)],
  ob (T "function") (.func ((sm 101 9) "take_point" "WordReader.take_point" 3 [] (R 711) N N (S "wholefaces.c_reader" 1224) none (R 717) N 0)),
  tu [N]]

def os12 (P : Params) : List Obj := [
  tu [],
  fi [],
  tu [(S "self" 1332),(S "dims" 1333),(S "other" 1334),(S "words" 1335),(S "word" 1336)],
  tu [],
  ob N (.func ((sm 101 10) "take_axis" "WordReader.take_axis" 0 [] N N N N none N N 0)),
  co [(S "take_axis" 1329),(S "WordReader.take_axis" 1330),(S "/claim/cut.py" 1331),(I 538),(I 3),(I 0),(I 0),(I 3),(R 720),(.bool true),(I 370),(R 721),N,(R 722),(R 723),(R 724),(I 1337),(I 538),(S "/claim/cut.py" 1338)],
  ob (T "function") (.func ((sm 101 10) "take_axis" "WordReader.take_axis" 3 [] (R 719) N N (S "wholefaces.c_reader" 1224) none (R 725) N 0)),
  tu [],
  fi [],
  tu [(S "self" 1343)],
  tu [],
  ob N (.func ((sm 101 11) "take_sign" "WordReader.take_sign" 0 [] N N N N none N N 0)),
  co [(S "take_sign" 1340),(S "WordReader.take_sign" 1341),(S "/claim/cut.py" 1342),(I 546),(I 1),(I 0),(I 0),(I 3),(R 727),(.bool true),(I 370),(R 728),N,(R 729),(R 730),(R 731),(I 1344),(I 546),(S "/claim/cut.py" 1345)],
  ob (T "function") (.func ((sm 101 11) "take_sign" "WordReader.take_sign" 3 [] N N N (S "wholefaces.c_reader" 1224) none (R 732) N 0)),
  tu [],
  fi [],
  tu [(S "self" 1350),(S "taken" 1351),(S "word" 1352)],
  tu [],
  ob N (.func ((sm 101 12) "take_name" "WordReader.take_name" 0 [] N N N N none N N 0)),
  co [(S "take_name" 1347),(S "WordReader.take_name" 1348),(S "/claim/cut.py" 1349),(I 549),(I 2),(I 0),(I 0),(I 3),(R 734),(.bool true),(I 370),(R 735),N,(R 736),(R 737),(R 738),(I 1353),(I 549),(S "/claim/cut.py" 1354)],
  ob (T "function") (.func ((sm 101 12) "take_name" "WordReader.take_name" 3 [] N N N (S "wholefaces.c_reader" 1224) none (R 739) N 0)),
  tu [],
  fi [],
  tu [(S "self" 1359),(S "word" 1360),(S "number" 1361),(S "dot" 1362),(S "path" 1363)],
  tu [],
  ob N (.func ((sm 101 13) "take_block" "WordReader.take_block" 0 [] N N N N none N N 0)),
  co [(S "take_block" 1356),(S "WordReader.take_block" 1357),(S "/claim/cut.py" 1358),(I 556),(I 1),(I 0),(I 0),(I 3),(R 741),(.bool true),(I 370),(R 742),N,(R 743),(R 744),(R 745),(I 1364),(I 556),(S "/claim/cut.py" 1365)],
  ob (T "function") (.func ((sm 101 13) "take_block" "WordReader.take_block" 3 [] N N N (S "wholefaces.c_reader" 1224) none (R 746) N 0)),
  tu [(S "pairs" 1367),(S "row" 1368),(S "size" 1369),(S "spot" 1370)],
  ob (T "dict") (.dict (L [E P "__module__" 1233 (S "wholefaces.c_reader" 1224),E P "__firstlineno__" 1237 (J 473 1236),E P "__init__" 1248 (R 652),E P "coming" 1255 (R 659),E P "refuse" 1262 (R 666),E P "comes" 1270 (R 673),E P "want" 1278 (R 680),E P "one_of" 1287 (R 687),E P "finish" 1294 (R 694),E P "take_number" 1306 (R 702),E P "take_integer" 1317 (R 710),E P "take_point" 1328 (R 718),E P "take_axis" 1339 (R 726),E P "take_sign" 1346 (R 733),E P "take_name" 1355 (R 740),E P "take_block" 1366 (R 747),E P "__static_attributes__" 1371 (R 748),E P "__dict__" 1373 (R 751),E P "__weakref__" 1375 (R 752),E P "__doc__" 1376 N]) 4),
  ⟨(T "type"), none, (.cls ⟨"WordReader", [(T "object")], [(R 750),(T "object")], 749, "WordReader", true, [], [], false, none, false⟩), L [none,none,(some (S "WordReader" 1226)),(some (S "WordReader" 1234)),(some (B "object.__new__")),(some (.bool true))]⟩,
  ob (T "getset_descriptor") (.fields (L [(S "__dict__" 1372),(R 750),(B "function.__dict__"),(B "function.__dict__#set")])),
  ob (T "getset_descriptor") (.fields (L [(S "__weakref__" 1374),(R 750),(B "ExceptionGroup.__weakref__"),N])),
  ob (T "super") (.fields (L [(R 750),(R 750),(R 750)])),
  ob (T "builtin_function_or_method") (.fields (L [(B "object.__init_subclass__"),(R 750)])),
  tu [],
  fi [],
  tu [(S "reader" 1382),(S "atom" 1383),(S "tree" 1384)],
  tu [],
  ob N (.func ((st 102) "_c_read_either" "_c_read_either" 0 [] N N N N none N N 0)),
  co [(S "_c_read_either" 1379),(S "_c_read_either" 1380),(S "/claim/cut.py" 1381),(I 563),(I 2),(I 0),(I 0),(I 3),(R 755),(.bool true),(I 370),(R 756),N,(R 757),(R 758),(R 759),(I 1385),(I 563),(S "/claim/cut.py" 1386)],
  ob (T "function") (.func ((st 102) "_c_read_either" "_c_read_either" 3 [] N N N (S "wholefaces.c_reader" 1224) none (R 760) N 0)),
  tu [],
  fi [],
  tu [(S "reader" 1391),(S "atom" 1392),(S "tree" 1393)],
  tu [],
  ob N (.func ((st 103) "_c_read_both" "_c_read_both" 0 [] N N N N none N N 0)),
  co [(S "_c_read_both" 1388),(S "_c_read_both" 1389),(S "/claim/cut.py" 1390),(I 568),(I 2),(I 0),(I 0),(I 3),(R 762),(.bool true),(I 370),(R 763),N,(R 764),(R 765),(R 766),(I 1394),(I 568),(S "/claim/cut.py" 1395)],
  ob (T "function") (.func ((st 103) "_c_read_both" "_c_read_both" 3 [] N N N (S "wholefaces.c_reader" 1224) none (R 767) N 0)),
  tu [],
  fi [],
  tu [(S "reader" 1400),(S "atom" 1401),(S "tree" 1402)],
  tu [],
  ob N (.func ((st 104) "_c_read_unit" "_c_read_unit" 0 [] N N N N none N N 0)),
  co [(S "_c_read_unit" 1397),(S "_c_read_unit" 1398),(S "/claim/cut.py" 1399),(I 573),(I 2),(I 0),(I 0),(I 3),(R 769),(.bool true),(I 370),(R 770),N,(R 771),(R 772),(R 773),(I 1403),(I 573),(S "/claim/cut.py" 1404)],
  ob (T "function") (.func ((st 104) "_c_read_unit" "_c_read_unit" 3 [] N N N (S "wholefaces.c_reader" 1224) none (R 774) N 0)),
  tu [],
  fi [],
  tu [(S "tree" 1409),(S "atom" 1410),(S "word" 1411)],
  tu []]

def os13 (P : Params) : List Obj := [
  ob N (.func ((st 105) "_c_logic_line" "_c_logic_line" 0 [] N N N N none N N 0)),
  co [(S "_c_logic_line" 1406),(S "_c_logic_line" 1407),(S "/claim/cut.py" 1408),(I 581),(I 2),(I 0),(I 0),(I 3),(R 776),(.bool true),(I 370),(R 777),N,(R 778),(R 779),(R 780),(I 1412),(I 581),(S "/claim/cut.py" 1413)],
  ob (T "function") (.func ((st 105) "_c_logic_line" "_c_logic_line" 3 [] N N N (S "wholefaces.c_reader" 1224) none (R 781) N 0)),
  tu [],
  fi [],
  tu [(S "tree" 1418),(S "least" 1419),(S "atom" 1420),(S "line" 1421),(S "binds" 1422)],
  tu [],
  ob N (.func ((st 106) "_c_within" "_c_within" 0 [] N N N N none N N 0)),
  co [(S "_c_within" 1415),(S "_c_within" 1416),(S "/claim/cut.py" 1417),(I 590),(I 3),(I 0),(I 0),(I 3),(R 783),(.bool true),(I 370),(R 784),N,(R 785),(R 786),(R 787),(I 1423),(I 590),(S "/claim/cut.py" 1424)],
  ob (T "function") (.func ((st 106) "_c_within" "_c_within" 3 [] N N N (S "wholefaces.c_reader" 1224) none (R 788) N 0)),
  tu [],
  fi [],
  ob N (.func ((st 107) "_c_point_line" "_c_point_line" 0 [] N N N N none N N 0)),
  co [(S "_c_point_line" 1426),(S "_c_point_line" 1427),(S "/claim/cut.py" 1428),(I 594),(I 1),(I 0),(I 0),(I 3),(R 790),(.bool true),(I 370),(R 791),N,N,N,(R 792),(I 1429),(I 594),(S "/claim/cut.py" 1430)],
  ob (T "function") (.func ((st 107) "_c_point_line" "_c_point_line" 3 [] N N N (S "wholefaces.c_reader" 1224) none (R 793) N 0))]

def objs0 (w : World) : List Obj := os0 w.params (ob20 w) ++ (os1 w.params ++ (os2 w.params ++ (os3 w.params ++ (os4 w.params ++ (os5 w.params ++ (os6 w.params ++ (os7 w.params ++ (os8 w.params ++ (os9 w.params ++ (os10 w.params ++ (os11 w.params ++ (os12 w.params ++ (os13 w.params)))))))))))))
def toks0 : Nat := 1434
def up1 (P : Params) : List (Nat × Obj) := [
  (3, ob (T "dict") (.dict (L [E P "__name__" 165 (S "wholefaces.frames" 2128),E P "__doc__" 166 N,E P "__package__" 167 N,E P "__loader__" 168 (B "__main__.__loader__#opaque"),E P "__spec__" 169 N,E P "__annotations__" 170 (R 6),E P "__builtins__" 171 (R 4),E P "__file__" 173 (S "/claim/cut.py" 172),E P "__cached__" 174 N,E P "gcd" 369 (B "math.gcd"),E P "MeshError" 395 (R 52),E P "ShapeError" 411 (R 65),E P "TextError" 427 (R 77),E P "NotUsable" 454 (R 96),E P "CutRoot" 479 (R 115),E P "EmptySolid" 495 (R 127),E P "InvalidText" 522 (R 146),E P "is_integer" 531 (R 155),E P "is_number" 538 (R 162),E P "is_quotient" 547 (R 169),E P "is_space" 556 (R 176),E P "_are_integers" 565 (R 183),E P "is_point" 573 (R 190),E P "is_new" 583 (R 197),E P "is_place" 593 (R 204),E P "is_body" 602 (R 211),E P "b_lowest" 614 (R 218),E P "b_odd" 620 (R 223),E P "b_even_corners" 626 (R 228),E P "b_generation" 636 (R 235),E P "b_reach" 644 (R 242),E P "b_centre" 650 (R 247),E P "b_moved" 659 (R 254),E P "b_turn" 665 (R 259),E P "b_is_row" 681 (R 266),E P "b_check" 690 (R 273),E P "b_halves" 699 (R 280),E P "b_parent" 713 (R 287),E P "b_differences" 719 (R 292),E P "b_determinant" 725 (R 297),E P "b_cross" 733 (R 304),E P "_look_new" 743 (R 311),E P "_grain" 752 (R 318),E P "_open" 758 (R 323),E P "grain_of" 766 (R 330),E P "open_of" 774 (R 337),E P "level_of" 782 (R 344),E P "generation_of" 794 (R 351),E P "seat_of" 806 (R 358),E P "tips_of" 819 (R 365),E P "seat_corners" 825 (R 370),E P "key_of" 835 (R 377),E P "in_order" 841 (R 382),E P "held_points" 849 (R 387),E P "_lowest_quotient" 860 (R 394),E P "_look_quotients" 868 (R 401),E P "quotient_of" 876 (R 408),E P "plus" 884 (R 415),E P "minus" 892 (R 422),E P "times" 900 (R 429),E P "over" 908 (R 436),E P "less" 916 (R 443),E P "_b_dot" 924 (R 448),E P "_b_normals" 930 (R 453),E P "_b_cosine" 940 (R 460),E P "_b_degrees" 947 (R 467),E P "_b_check_sides" 956 (R 474),E P "lengths_of" 962 (R 479),E P "cosine_of" 972 (R 486),E P "degrees_of" 982 (R 493),E P "angles_of" 995 (R 500),E P "measure_of" 1004 (R 507),E P "is_flat" 1011 (R 514),E P "side_book" 1020 (R 521),E P "border_sides" 1026 (R 526),E P "pieces_of" 1032 (R 531),E P "euler_of" 1038 (R 536),E P "solid_measure" 1044 (R 541),E P "_c_bodies_fit" 1050 (R 546),E P "_c_sides" 1056 (R 551),E P "_c_faces" 1062 (R 556),E P "_b_check_edge" 1074 (R 563),E P "_b_has_centre" 1080 (R 568),E P "half_way" 1090 (R 575),E P "road_to" 1102 (R 582),E P "SMALL" 1106 (S "abcdefghijklmnopqrstuvwxyz" 1105),E P "FIGURES" 1108 (S "0123456789" 1107),E P "MARKS_OF_TEXTS" 1121 (R 583),E P "RESERVED" 1158 (R 584),E P "words_of" 1167 (R 591),E P "_c_scanned" 1177 (R 598),E P "_c_word_end" 1186 (R 605),E P "_c_row_end" 1196 (R 612),E P "_c_is_word_name" 1203 (R 619),E P "_c_are_names" 1209 (R 624),E P "_c_is_number_word" 1216 (R 631),E P "_c_is_path" 1223 (R 638),E P "WordReader" 1378 (R 750),E P "_c_read_either" 1387 (R 761),E P "_c_read_both" 1396 (R 768),E P "_c_read_unit" 1405 (R 775),E P "_c_logic_line" 1414 (R 782),E P "_c_within" 1425 (R 789),E P "_c_point_line" 1431 (R 794),E P "MARKS" 1439 (R 795),E P "PLAIN_QUANTITIES" 1445 (R 796),E P "is_region" 1454 (R 803),E P "is_expression" 1463 (R 810),E P "is_sum" 1472 (R 817),E P "is_test" 1482 (R 824),E P "is_plan" 1488 (R 829),E P "_c_plan_begins" 1499 (R 836),E P "_c_is_table" 1505 (R 841),E P "_c_table_names" 1511 (R 846),E P "_c_regions_fit" 1517 (R 851),E P "_c_fields_fit" 1523 (R 856),E P "_c_is_pair" 1530 (R 863),E P "_c_is_tree" 1537 (R 870),E P "_c_is_axis" 1545 (R 877),E P "_c_name_fits" 1553 (R 884),E P "_c_region_fits" 1559 (R 889),E P "_c_box_fits" 1565 (R 894),E P "_c_upto_fits" 1576 (R 901),E P "_c_expression_fits" 1582 (R 906),E P "_c_terms_fit" 1592 (R 913),E P "_c_sum_fits" 1598 (R 918),E P "_c_quantity_fits" 1607 (R 925),E P "_c_test_fits" 1613 (R 930),E P "_c_is_block_name" 1620 (R 937),E P "read_expression" 1633 (R 944),E P "expression_line" 1640 (R 951),E P "_c_read_expression" 1651 (R 958),E P "_c_read_term" 1661 (R 965),E P "_c_read_factor" 1673 (R 972),E P "_c_expression_words" 1679 (R 977),E P "_c_terms_words" 1690 (R 984),E P "_c_bound_words" 1699 (R 991),E P "_lowest_place" 1707 (R 996),E P "place_of" 1716 (R 1003),E P "point_place" 1724 (R 1010),E P "between" 1741 (R 1017),E P "mean_place" 1752 (R 1024),E P "_b_check_place" 1762 (R 1031),E P "_b_fits" 1768 (R 1036),E P "_b_weights" 1774 (R 1041),E P "weights_in" 1782 (R 1048),E P "blend" 1788 (R 1053),E P "holds" 1794 (R 1058),E P "carrier_in" 1800 (R 1063),E P "_b_check_generation" 1811 (R 1070),E P "_b_into_half" 1824 (R 1077),E P "family_of" 1830 (R 1082),E P "down_to" 1836 (R 1087),E P "value_of" 1844 (R 1092),E P "field_at" 1850 (R 1097),E P "_c_value" 1856 (R 1102),E P "_b_check_below_top" 1866 (R 1109),E P "generation_in" 1874 (R 1116),E P "tips_in" 1882 (R 1123),E P "middle_of" 1890 (R 1130),E P "halves_of" 1898 (R 1137),E P "_b_orders" 1906 (R 1142),E P "_b_walk" 1918 (R 1149),E P "cube_roots" 1924 (R 1154),E P "is_root" 1932 (R 1161),E P "root_cube" 1938 (R 1166),E P "_b_up_to" 1952 (R 1173),E P "is_block" 1960 (R 1180),E P "root_of" 1968 (R 1187),E P "path_of" 1976 (R 1194),E P "block_at" 1982 (R 1199),E P "parent_of" 1991 (R 1206),E P "ancestor_of" 2000 (R 1213),E P "comes_of" 2010 (R 1220),E P "ordered" 2016 (R 1225),E P "own_cube" 2022 (R 1230),E P "place_in" 2030 (R 1235),E P "halfwise" 2036 (R 1240),E P "status_of" 2042 (R 1245),E P "_c_check_region" 2051 (R 1252),E P "_c_has_place" 2057 (R 1257),E P "_c_half_status" 2063 (R 1262),E P "_c_box_status" 2076 (R 1269),E P "_c_whole_status" 2091 (R 1276),E P "_c_halves" 2097 (R 1281),E P "is_solid" 2105 (R 1286),E P "solid_of" 2115 (R 1293),E P "solid_from" 2121 (R 1298),E P "_c_cubes_fit" 2127 (R 1303),E P "is_frame" 2135 (R 1308),E P "frame_of" 2141 (R 1313)]) 191)),
  (40, fi [(I 3),(I 0),(R 48),(I 5),(I 0),(R 61),(I 7),(I 0),(R 73),(I 9),(I 0),(R 85),(I 14),(I 0),(R 104),(I 18),(I 0),(R 123),(I 20),(I 0),(R 135),(I 26),(I 0),(R 154),(I 28),(I 0),(R 161),(I 30),(I 0),(R 168),(I 37),(I 0),(R 175),(I 42),(I 0),(R 182),(I 49),(I 0),(R 189),(I 51),(I 0),(R 196),(I 59),(I 0),(R 203),(I 66),(I 0),(R 210),(I 74),(I 0),(R 217),(I 80),(I 0),(R 222),(I 82),(I 0),(R 227),(I 84),(I 0),(R 234),(I 88),(I 0),(R 241),(I 93),(I 0),(R 246),(I 95),(I 0),(R 253),(I 97),(I 0),(R 258),(I 102),(I 0),(R 265),(I 126),(I 0),(R 272),(I 129),(I 0),(R 279),(I 133),(I 0),(R 286),(I 149),(I 0),(R 291),(I 152),(I 0),(R 296),(I 157),(I 0),(R 303),(I 160),(I 0),(R 310),(I 163),(I 0),(R 317),(I 168),(I 0),(R 322),(I 170),(I 0),(R 329),(I 173),(I 0),(R 336),(I 176),(I 0),(R 343),(I 179),(I 0),(R 350),(I 188),(I 0),(R 357),(I 197),(I 0),(R 364),(I 209),(I 0),(R 369),(I 219),(I 0),(R 376),(I 221),(I 0),(R 381),(I 232),(I 0),(R 386),(I 247),(I 0),(R 393),(I 252),(I 0),(R 400),(I 257),(I 0),(R 407),(I 263),(I 0),(R 414),(I 266),(I 0),(R 421),(I 269),(I 0),(R 428),(I 272),(I 0),(R 435),(I 277),(I 0),(R 442),(I 281),(I 0),(R 447),(I 283),(I 0),(R 452),(I 292),(I 0),(R 459),(I 298),(I 0),(R 466),(I 308),(I 0),(R 473),(I 313),(I 0),(R 478),(I 319),(I 0),(R 485),(I 323),(I 0),(R 492),(I 327),(I 0),(R 499),(I 336),(I 0),(R 506),(I 338),(I 0),(R 513),(I 341),(I 0),(R 520),(I 345),(I 0),(R 525),(I 349),(I 0),(R 530),(I 369),(I 0),(R 535),(I 377),(I 0),(R 540),(I 379),(I 0),(R 545),(I 386),(I 0),(R 550),(I 393),(I 0),(R 555),(I 399),(I 0),(R 562),(I 405),(I 0),(R 567),(I 407),(I 0),(R 574),(I 412),(I 0),(R 581),(I 427),(I 0),(R 590),(I 434),(I 0),(R 597),(I 446),(I 0),(R 604),(I 455),(I 0),(R 611),(I 460),(I 0),(R 618),(I 464),(I 0),(R 623),(I 466),(I 0),(R 630),(I 470),(I 0),(R 637),(I 473),(I 0),(R 644),(I 563),(I 0),(R 760),(I 568),(I 0),(R 767),(I 573),(I 0),(R 774),(I 581),(I 0),(R 781),(I 590),(I 0),(R 788),(I 594),(I 0),(R 793),(I 599),(I 0),(R 802),(I 603),(I 0),(R 809),(I 607),(I 0),(R 816),(I 611),(I 0),(R 823),(I 617),(I 0),(R 828),(I 633),(I 0),(R 835),(I 640),(I 0),(R 840),(I 645),(I 0),(R 845),(I 647),(I 0),(R 850),(I 652),(I 0),(R 855),(I 657),(I 0),(R 862),(I 659),(I 0),(R 869),(I 661),(I 0),(R 876),(I 663),(I 0),(R 883),(I 665),(I 0),(R 888),(I 682),(I 0),(R 893),(I 686),(I 0),(R 900),(I 695),(I 0),(R 905),(I 716),(I 0),(R 912),(I 725),(I 0),(R 917),(I 732),(I 0),(R 924),(I 742),(I 0),(R 929),(I 761),(I 0),(R 936),(I 764),(I 0),(R 943),(I 773),(I 0),(R 950),(I 777),(I 0),(R 957),(I 786),(I 0),(R 964),(I 791),(I 0),(R 971),(I 811),(I 0),(R 976),(I 824),(I 0),(R 983),(I 833),(I 0),(R 990),(I 837),(I 0),(R 995),(I 842),(I 0),(R 1002),(I 848),(I 0),(R 1009),(I 852),(I 0),(R 1016),(I 866),(I 0),(R 1023),(I 877),(I 0),(R 1030),(I 880),(I 0),(R 1035),(I 887),(I 0),(R 1040),(I 899),(I 0),(R 1047),(I 902),(I 0),(R 1052),(I 908),(I 0),(R 1057),(I 911),(I 0),(R 1062),(I 920),(I 0),(R 1069),(I 923),(I 0),(R 1076),(I 930),(I 0),(R 1081),(I 937),(I 0),(R 1086),(I 949),(I 0),(R 1091),(I 958),(I 0),(R 1096),(I 965),(I 0),(R 1101),(I 987),(I 0),(R 1108),(I 991),(I 0),(R 1115),(I 994),(I 0),(R 1122),(I 997),(I 0),(R 1129),(I 1000),(I 0),(R 1136),(I 1004),(I 0),(R 1141),(I 1009),(I 0),(R 1148),(I 1016),(I 0),(R 1153),(I 1024),(I 0),(R 1160),(I 1026),(I 0),(R 1165),(I 1032),(I 0),(R 1172),(I 1039),(I 0),(R 1179),(I 1041),(I 0),(R 1186),(I 1044),(I 0),(R 1193),(I 1047),(I 0),(R 1198),(I 1057),(I 0),(R 1205),(I 1063),(I 0),(R 1212),(I 1068),(I 0),(R 1219),(I 1075),(I 0),(R 1224),(I 1084),(I 0),(R 1229),(I 1089),(I 0),(R 1234),(I 1094),(I 0),(R 1239),(I 1099),(I 0),(R 1244),(I 1105),(I 0),(R 1251),(I 1110),(I 0),(R 1256),(I 1127),(I 0),(R 1261),(I 1147),(I 0),(R 1268),(I 1154),(I 0),(R 1275),(I 1163),(I 0),(R 1280),(I 1168),(I 0),(R 1285),(I 1177),(I 0),(R 1292),(I 1184),(I 0),(R 1297),(I 1199),(I 0),(R 1302),(I 1206),(I 0),(R 1307),(I 1217),(I 0),(R 1312)])]

def os14 (P : Params) : List Obj := [
  tu [(S "<" 1434),(S "<=" 1435),(S "=" 1436),(S ">" 1437),(S ">=" 1438)],
  tu [(S "one" 1440),(S "generation" 1441),(S "level" 1442),(S "stage" 1443),(S "size" 1444)],
  tu [],
  fi [],
  tu [(S "space" 1449),(S "names" 1450),(S "thing" 1451)],
  tu [],
  ob N (.func ((st 111) "is_region" "is_region" 0 [] N N N N none N N 0)),
  co [(S "is_region" 1446),(S "is_region" 1447),(S "/claim/cut.py" 1448),(I 599),(I 3),(I 0),(I 0),(I 3),(R 797),(.bool true),(I 370),(R 798),N,(R 799),(R 800),(R 801),(I 1452),(I 599),(S "/claim/cut.py" 1453)],
  ob (T "function") (.func ((st 111) "is_region" "is_region" 3 [] N N N (S "wholefaces.treekinds" 1432) none (R 802) N 0)),
  tu [],
  fi [],
  tu [(S "space" 1458),(S "names" 1459),(S "thing" 1460)],
  tu [],
  ob N (.func ((st 112) "is_expression" "is_expression" 0 [] N N N N none N N 0)),
  co [(S "is_expression" 1455),(S "is_expression" 1456),(S "/claim/cut.py" 1457),(I 603),(I 3),(I 0),(I 0),(I 3),(R 804),(.bool true),(I 370),(R 805),N,(R 806),(R 807),(R 808),(I 1461),(I 603),(S "/claim/cut.py" 1462)],
  ob (T "function") (.func ((st 112) "is_expression" "is_expression" 3 [] N N N (S "wholefaces.treekinds" 1432) none (R 809) N 0)),
  tu [],
  fi [],
  tu [(S "space" 1467),(S "fields" 1468),(S "thing" 1469)],
  tu [],
  ob N (.func ((st 113) "is_sum" "is_sum" 0 [] N N N N none N N 0)),
  co [(S "is_sum" 1464),(S "is_sum" 1465),(S "/claim/cut.py" 1466),(I 607),(I 3),(I 0),(I 0),(I 3),(R 811),(.bool true),(I 370),(R 812),N,(R 813),(R 814),(R 815),(I 1470),(I 607),(S "/claim/cut.py" 1471)],
  ob (T "function") (.func ((st 113) "is_sum" "is_sum" 3 [] N N N (S "wholefaces.treekinds" 1432) none (R 816) N 0)),
  tu [],
  fi [],
  tu [(S "space" 1476),(S "regions" 1477),(S "fields" 1478),(S "thing" 1479)],
  tu [],
  ob N (.func ((st 114) "is_test" "is_test" 0 [] N N N N none N N 0)),
  co [(S "is_test" 1473),(S "is_test" 1474),(S "/claim/cut.py" 1475),(I 611),(I 4),(I 0),(I 0),(I 3),(R 818),(.bool true),(I 370),(R 819),N,(R 820),(R 821),(R 822),(I 1480),(I 611),(S "/claim/cut.py" 1481)],
  ob (T "function") (.func ((st 114) "is_test" "is_test" 3 [] N N N (S "wholefaces.treekinds" 1432) none (R 823) N 0)),
  tu [],
  fi [],
  ob N (.func ((st 115) "is_plan" "is_plan" 0 [] N N N N none N N 0)),
  co [(S "is_plan" 1483),(S "is_plan" 1484),(S "/claim/cut.py" 1485),(I 617),(I 1),(I 0),(I 0),(I 3),(R 825),(.bool true),(I 370),(R 826),N,N,N,(R 827),(I 1486),(I 617),(S "/claim/cut.py" 1487)],
  ob (T "function") (.func ((st 115) "is_plan" "is_plan" 3 [] N N N (S "wholefaces.treekinds" 1432) none (R 828) N 0)),
  tu [],
  fi [],
  tu [(S "numbers" 1492),(S "dims" 1493),(S "rounds" 1494),(S "cubes" 1495),(S "deep" 1496)],
  tu [],
  ob N (.func ((st 116) "_c_plan_begins" "_c_plan_begins" 0 [] N N N N none N N 0)),
  co [(S "_c_plan_begins" 1489),(S "_c_plan_begins" 1490),(S "/claim/cut.py" 1491),(I 633),(I 1),(I 0),(I 0),(I 3),(R 830),(.bool true),(I 370),(R 831),N,(R 832),(R 833),(R 834),(I 1497),(I 633),(S "/claim/cut.py" 1498)],
  ob (T "function") (.func ((st 116) "_c_plan_begins" "_c_plan_begins" 3 [] N N N (S "wholefaces.treekinds" 1432) none (R 835) N 0)),
  tu [],
  fi [],
  ob N (.func ((st 117) "_c_is_table" "_c_is_table" 0 [] N N N N none N N 0)),
  co [(S "_c_is_table" 1500),(S "_c_is_table" 1501),(S "/claim/cut.py" 1502),(I 640),(I 1),(I 0),(I 0),(I 3),(R 837),(.bool true),(I 370),(R 838),N,N,N,(R 839),(I 1503),(I 640),(S "/claim/cut.py" 1504)],
  ob (T "function") (.func ((st 117) "_c_is_table" "_c_is_table" 3 [] N N N (S "wholefaces.treekinds" 1432) none (R 840) N 0)),
  tu [],
  fi [],
  ob N (.func ((st 118) "_c_table_names" "_c_table_names" 0 [] N N N N none N N 0)),
  co [(S "_c_table_names" 1506),(S "_c_table_names" 1507),(S "/claim/cut.py" 1508),(I 645),(I 1),(I 0),(I 0),(I 3),(R 842),(.bool true),(I 370),(R 843),N,N,N,(R 844),(I 1509),(I 645),(S "/claim/cut.py" 1510)],
  ob (T "function") (.func ((st 118) "_c_table_names" "_c_table_names" 3 [] N N N (S "wholefaces.treekinds" 1432) none (R 845) N 0)),
  tu [],
  fi [],
  ob N (.func ((st 119) "_c_regions_fit" "_c_regions_fit" 0 [] N N N N none N N 0)),
  co [(S "_c_regions_fit" 1512),(S "_c_regions_fit" 1513),(S "/claim/cut.py" 1514),(I 647),(I 2),(I 0),(I 0),(I 3),(R 847),(.bool true),(I 370),(R 848),N,N,N,(R 849),(I 1515),(I 647),(S "/claim/cut.py" 1516)],
  ob (T "function") (.func ((st 119) "_c_regions_fit" "_c_regions_fit" 3 [] N N N (S "wholefaces.treekinds" 1432) none (R 850) N 0)),
  tu [],
  fi [],
  ob N (.func ((st 120) "_c_fields_fit" "_c_fields_fit" 0 [] N N N N none N N 0))]

def os15 (P : Params) : List Obj := [
  co [(S "_c_fields_fit" 1518),(S "_c_fields_fit" 1519),(S "/claim/cut.py" 1520),(I 652),(I 2),(I 0),(I 0),(I 3),(R 852),(.bool true),(I 370),(R 853),N,N,N,(R 854),(I 1521),(I 652),(S "/claim/cut.py" 1522)],
  ob (T "function") (.func ((st 120) "_c_fields_fit" "_c_fields_fit" 3 [] N N N (S "wholefaces.treekinds" 1432) none (R 855) N 0)),
  tu [],
  fi [],
  tu [(S "thing" 1527)],
  tu [],
  ob N (.func ((st 121) "_c_is_pair" "_c_is_pair" 0 [] N N N N none N N 0)),
  co [(S "_c_is_pair" 1524),(S "_c_is_pair" 1525),(S "/claim/cut.py" 1526),(I 657),(I 1),(I 0),(I 0),(I 3),(R 857),(.bool true),(I 370),(R 858),N,(R 859),(R 860),(R 861),(I 1528),(I 657),(S "/claim/cut.py" 1529)],
  ob (T "function") (.func ((st 121) "_c_is_pair" "_c_is_pair" 3 [] N N N (S "wholefaces.treekinds" 1432) none (R 862) N 0)),
  tu [],
  fi [],
  tu [(S "thing" 1534)],
  tu [],
  ob N (.func ((st 122) "_c_is_tree" "_c_is_tree" 0 [] N N N N none N N 0)),
  co [(S "_c_is_tree" 1531),(S "_c_is_tree" 1532),(S "/claim/cut.py" 1533),(I 659),(I 1),(I 0),(I 0),(I 3),(R 864),(.bool true),(I 370),(R 865),N,(R 866),(R 867),(R 868),(I 1535),(I 659),(S "/claim/cut.py" 1536)],
  ob (T "function") (.func ((st 122) "_c_is_tree" "_c_is_tree" 3 [] N N N (S "wholefaces.treekinds" 1432) none (R 869) N 0)),
  tu [],
  fi [],
  tu [(S "dims" 1541),(S "thing" 1542)],
  tu [],
  ob N (.func ((st 123) "_c_is_axis" "_c_is_axis" 0 [] N N N N none N N 0)),
  co [(S "_c_is_axis" 1538),(S "_c_is_axis" 1539),(S "/claim/cut.py" 1540),(I 661),(I 2),(I 0),(I 0),(I 3),(R 871),(.bool true),(I 370),(R 872),N,(R 873),(R 874),(R 875),(I 1543),(I 661),(S "/claim/cut.py" 1544)],
  ob (T "function") (.func ((st 123) "_c_is_axis" "_c_is_axis" 3 [] N N N (S "wholefaces.treekinds" 1432) none (R 876) N 0)),
  tu [],
  fi [],
  tu [(S "names" 1549),(S "thing" 1550)],
  tu [],
  ob N (.func ((st 124) "_c_name_fits" "_c_name_fits" 0 [] N N N N none N N 0)),
  co [(S "_c_name_fits" 1546),(S "_c_name_fits" 1547),(S "/claim/cut.py" 1548),(I 663),(I 2),(I 0),(I 0),(I 3),(R 878),(.bool true),(I 370),(R 879),N,(R 880),(R 881),(R 882),(I 1551),(I 663),(S "/claim/cut.py" 1552)],
  ob (T "function") (.func ((st 124) "_c_name_fits" "_c_name_fits" 3 [] N N N (S "wholefaces.treekinds" 1432) none (R 883) N 0)),
  tu [],
  fi [],
  ob N (.func ((st 125) "_c_region_fits" "_c_region_fits" 0 [] N N N N none N N 0)),
  co [(S "_c_region_fits" 1554),(S "_c_region_fits" 1555),(S "/claim/cut.py" 1556),(I 665),(I 3),(I 0),(I 0),(I 3),(R 885),(.bool true),(I 370),(R 886),N,N,N,(R 887),(I 1557),(I 665),(S "/claim/cut.py" 1558)],
  ob (T "function") (.func ((st 125) "_c_region_fits" "_c_region_fits" 3 [] N N N (S "wholefaces.treekinds" 1432) none (R 888) N 0)),
  tu [],
  fi [],
  ob N (.func ((st 126) "_c_box_fits" "_c_box_fits" 0 [] N N N N none N N 0)),
  co [(S "_c_box_fits" 1560),(S "_c_box_fits" 1561),(S "/claim/cut.py" 1562),(I 682),(I 3),(I 0),(I 0),(I 3),(R 890),(.bool true),(I 370),(R 891),N,N,N,(R 892),(I 1563),(I 682),(S "/claim/cut.py" 1564)],
  ob (T "function") (.func ((st 126) "_c_box_fits" "_c_box_fits" 3 [] N N N (S "wholefaces.treekinds" 1432) none (R 893) N 0)),
  tu [],
  fi [],
  tu [(S "dims" 1569),(S "terms" 1570),(S "bound" 1571),(S "k" 1572),(S "term" 1573)],
  tu [],
  ob N (.func ((st 127) "_c_upto_fits" "_c_upto_fits" 0 [] N N N N none N N 0)),
  co [(S "_c_upto_fits" 1566),(S "_c_upto_fits" 1567),(S "/claim/cut.py" 1568),(I 686),(I 3),(I 0),(I 0),(I 3),(R 895),(.bool true),(I 370),(R 896),N,(R 897),(R 898),(R 899),(I 1574),(I 686),(S "/claim/cut.py" 1575)],
  ob (T "function") (.func ((st 127) "_c_upto_fits" "_c_upto_fits" 3 [] N N N (S "wholefaces.treekinds" 1432) none (R 900) N 0)),
  tu [],
  fi [],
  ob N (.func ((st 128) "_c_expression_fits" "_c_expression_fits" 0 [] N N N N none N N 0)),
  co [(S "_c_expression_fits" 1577),(S "_c_expression_fits" 1578),(S "/claim/cut.py" 1579),(I 695),(I 3),(I 0),(I 0),(I 3),(R 902),(.bool true),(I 370),(R 903),N,N,N,(R 904),(I 1580),(I 695),(S "/claim/cut.py" 1581)],
  ob (T "function") (.func ((st 128) "_c_expression_fits" "_c_expression_fits" 3 [] N N N (S "wholefaces.treekinds" 1432) none (R 905) N 0)),
  tu [],
  fi [],
  tu [(S "dims" 1586),(S "names" 1587),(S "terms" 1588),(S "term" 1589)],
  tu [],
  ob N (.func ((st 129) "_c_terms_fit" "_c_terms_fit" 0 [] N N N N none N N 0)),
  co [(S "_c_terms_fit" 1583),(S "_c_terms_fit" 1584),(S "/claim/cut.py" 1585),(I 716),(I 3),(I 0),(I 0),(I 3),(R 907),(.bool true),(I 370),(R 908),N,(R 909),(R 910),(R 911),(I 1590),(I 716),(S "/claim/cut.py" 1591)],
  ob (T "function") (.func ((st 129) "_c_terms_fit" "_c_terms_fit" 3 [] N N N (S "wholefaces.treekinds" 1432) none (R 912) N 0)),
  tu []]

def os16 (P : Params) : List Obj := [
  fi [],
  ob N (.func ((st 130) "_c_sum_fits" "_c_sum_fits" 0 [] N N N N none N N 0)),
  co [(S "_c_sum_fits" 1593),(S "_c_sum_fits" 1594),(S "/claim/cut.py" 1595),(I 725),(I 3),(I 0),(I 0),(I 3),(R 914),(.bool true),(I 370),(R 915),N,N,N,(R 916),(I 1596),(I 725),(S "/claim/cut.py" 1597)],
  ob (T "function") (.func ((st 130) "_c_sum_fits" "_c_sum_fits" 3 [] N N N (S "wholefaces.treekinds" 1432) none (R 917) N 0)),
  tu [],
  fi [],
  tu [(S "dims" 1602),(S "fields" 1603),(S "thing" 1604)],
  tu [],
  ob N (.func ((st 131) "_c_quantity_fits" "_c_quantity_fits" 0 [] N N N N none N N 0)),
  co [(S "_c_quantity_fits" 1599),(S "_c_quantity_fits" 1600),(S "/claim/cut.py" 1601),(I 732),(I 3),(I 0),(I 0),(I 3),(R 919),(.bool true),(I 370),(R 920),N,(R 921),(R 922),(R 923),(I 1605),(I 732),(S "/claim/cut.py" 1606)],
  ob (T "function") (.func ((st 131) "_c_quantity_fits" "_c_quantity_fits" 3 [] N N N (S "wholefaces.treekinds" 1432) none (R 924) N 0)),
  tu [],
  fi [],
  ob N (.func ((st 132) "_c_test_fits" "_c_test_fits" 0 [] N N N N none N N 0)),
  co [(S "_c_test_fits" 1608),(S "_c_test_fits" 1609),(S "/claim/cut.py" 1610),(I 742),(I 4),(I 0),(I 0),(I 3),(R 926),(.bool true),(I 370),(R 927),N,N,N,(R 928),(I 1611),(I 742),(S "/claim/cut.py" 1612)],
  ob (T "function") (.func ((st 132) "_c_test_fits" "_c_test_fits" 3 [] N N N (S "wholefaces.treekinds" 1432) none (R 929) N 0)),
  tu [],
  fi [],
  tu [(S "thing" 1617)],
  tu [],
  ob N (.func ((st 133) "_c_is_block_name" "_c_is_block_name" 0 [] N N N N none N N 0)),
  co [(S "_c_is_block_name" 1614),(S "_c_is_block_name" 1615),(S "/claim/cut.py" 1616),(I 761),(I 1),(I 0),(I 0),(I 3),(R 931),(.bool true),(I 370),(R 932),N,(R 933),(R 934),(R 935),(I 1618),(I 761),(S "/claim/cut.py" 1619)],
  ob (T "function") (.func ((st 133) "_c_is_block_name" "_c_is_block_name" 3 [] N N N (S "wholefaces.treekinds" 1432) none (R 936) N 0)),
  tu [],
  fi [],
  tu [(S "space" 1626),(S "names" 1627),(S "text" 1628),(S "reader" 1629),(S "expression" 1630)],
  tu [],
  ob N (.func ((st 135) "read_expression" "read_expression" 0 [] N N N N none N N 0)),
  co [(S "read_expression" 1623),(S "read_expression" 1624),(S "/claim/cut.py" 1625),(I 764),(I 3),(I 0),(I 0),(I 3),(R 938),(.bool true),(I 370),(R 939),N,(R 940),(R 941),(R 942),(I 1631),(I 764),(S "/claim/cut.py" 1632)],
  ob (T "function") (.func ((st 135) "read_expression" "read_expression" 3 [] N N N (S "wholefaces.exprtexts" 1621) none (R 943) N 0)),
  tu [],
  fi [],
  tu [(S "expression" 1637)],
  tu [],
  ob N (.func ((st 136) "expression_line" "expression_line" 0 [] N N N N none N N 0)),
  co [(S "expression_line" 1634),(S "expression_line" 1635),(S "/claim/cut.py" 1636),(I 773),(I 1),(I 0),(I 0),(I 3),(R 945),(.bool true),(I 370),(R 946),N,(R 947),(R 948),(R 949),(I 1638),(I 773),(S "/claim/cut.py" 1639)],
  ob (T "function") (.func ((st 136) "expression_line" "expression_line" 3 [] N N N (S "wholefaces.exprtexts" 1621) none (R 950) N 0)),
  tu [],
  fi [],
  tu [(S "reader" 1644),(S "dims" 1645),(S "names" 1646),(S "sign" 1647),(S "terms" 1648)],
  tu [],
  ob N (.func ((st 137) "_c_read_expression" "_c_read_expression" 0 [] N N N N none N N 0)),
  co [(S "_c_read_expression" 1641),(S "_c_read_expression" 1642),(S "/claim/cut.py" 1643),(I 777),(I 3),(I 0),(I 0),(I 3),(R 952),(.bool true),(I 370),(R 953),N,(R 954),(R 955),(R 956),(I 1649),(I 777),(S "/claim/cut.py" 1650)],
  ob (T "function") (.func ((st 137) "_c_read_expression" "_c_read_expression" 3 [] N N N (S "wholefaces.exprtexts" 1621) none (R 957) N 0)),
  tu [],
  fi [],
  tu [(S "reader" 1655),(S "dims" 1656),(S "names" 1657),(S "factors" 1658)],
  tu [],
  ob N (.func ((st 138) "_c_read_term" "_c_read_term" 0 [] N N N N none N N 0)),
  co [(S "_c_read_term" 1652),(S "_c_read_term" 1653),(S "/claim/cut.py" 1654),(I 786),(I 3),(I 0),(I 0),(I 3),(R 959),(.bool true),(I 370),(R 960),N,(R 961),(R 962),(R 963),(I 1659),(I 786),(S "/claim/cut.py" 1660)],
  ob (T "function") (.func ((st 138) "_c_read_term" "_c_read_term" 3 [] N N N (S "wholefaces.exprtexts" 1621) none (R 964) N 0)),
  tu [],
  fi [],
  tu [(S "reader" 1665),(S "dims" 1666),(S "names" 1667),(S "word" 1668),(S "expression" 1669),(S "parts" 1670)],
  tu [],
  ob N (.func ((st 139) "_c_read_factor" "_c_read_factor" 0 [] N N N N none N N 0)),
  co [(S "_c_read_factor" 1662),(S "_c_read_factor" 1663),(S "/claim/cut.py" 1664),(I 791),(I 3),(I 0),(I 0),(I 3),(R 966),(.bool true),(I 370),(R 967),N,(R 968),(R 969),(R 970),(I 1671),(I 791),(S "/claim/cut.py" 1672)],
  ob (T "function") (.func ((st 139) "_c_read_factor" "_c_read_factor" 3 [] N N N (S "wholefaces.exprtexts" 1621) none (R 971) N 0)),
  tu [],
  fi []]

def os17 (P : Params) : List Obj := [
  ob N (.func ((st 140) "_c_expression_words" "_c_expression_words" 0 [] N N N N none N N 0)),
  co [(S "_c_expression_words" 1674),(S "_c_expression_words" 1675),(S "/claim/cut.py" 1676),(I 811),(I 1),(I 0),(I 0),(I 3),(R 973),(.bool true),(I 370),(R 974),N,N,N,(R 975),(I 1677),(I 811),(S "/claim/cut.py" 1678)],
  ob (T "function") (.func ((st 140) "_c_expression_words" "_c_expression_words" 3 [] N N N (S "wholefaces.exprtexts" 1621) none (R 976) N 0)),
  tu [],
  fi [],
  tu [(S "terms" 1683),(S "line" 1684),(S "k" 1685),(S "sign" 1686),(S "term" 1687)],
  tu [],
  ob N (.func ((st 141) "_c_terms_words" "_c_terms_words" 0 [] N N N N none N N 0)),
  co [(S "_c_terms_words" 1680),(S "_c_terms_words" 1681),(S "/claim/cut.py" 1682),(I 824),(I 1),(I 0),(I 0),(I 3),(R 978),(.bool true),(I 370),(R 979),N,(R 980),(R 981),(R 982),(I 1688),(I 824),(S "/claim/cut.py" 1689)],
  ob (T "function") (.func ((st 141) "_c_terms_words" "_c_terms_words" 3 [] N N N (S "wholefaces.exprtexts" 1621) none (R 983) N 0)),
  tu [],
  fi [],
  tu [(S "expression" 1694),(S "words" 1695),(S "line" 1696)],
  tu [],
  ob N (.func ((st 142) "_c_bound_words" "_c_bound_words" 0 [] N N N N none N N 0)),
  co [(S "_c_bound_words" 1691),(S "_c_bound_words" 1692),(S "/claim/cut.py" 1693),(I 833),(I 2),(I 0),(I 0),(I 3),(R 985),(.bool true),(I 370),(R 986),N,(R 987),(R 988),(R 989),(I 1697),(I 833),(S "/claim/cut.py" 1698)],
  ob (T "function") (.func ((st 142) "_c_bound_words" "_c_bound_words" 3 [] N N N (S "wholefaces.exprtexts" 1621) none (R 990) N 0)),
  tu [],
  fi [],
  ob N (.func ((st 144) "_lowest_place" "_lowest_place" 0 [] N N N N none N N 0)),
  co [(S "_lowest_place" 1702),(S "_lowest_place" 1703),(S "/claim/cut.py" 1704),(I 837),(I 2),(I 0),(I 0),(I 3),(R 992),(.bool true),(I 370),(R 993),N,N,N,(R 994),(I 1705),(I 837),(S "/claim/cut.py" 1706)],
  ob (T "function") (.func ((st 144) "_lowest_place" "_lowest_place" 3 [] N N N (S "wholefaces.places" 1700) none (R 995) N 0)),
  tu [],
  fi [],
  tu [(S "space" 1711),(S "numbers" 1712),(S "bottom" 1713)],
  tu [],
  ob N (.func ((st 145) "place_of" "place_of" 0 [] N N N N none N N 0)),
  co [(S "place_of" 1708),(S "place_of" 1709),(S "/claim/cut.py" 1710),(I 842),(I 3),(I 0),(I 0),(I 3),(R 997),(.bool true),(I 370),(R 998),N,(R 999),(R 1000),(R 1001),(I 1714),(I 842),(S "/claim/cut.py" 1715)],
  ob (T "function") (.func ((st 145) "place_of" "place_of" 3 [] N N N (S "wholefaces.places" 1700) none (R 1002) N 0)),
  tu [],
  fi [],
  tu [(S "space" 1720),(S "point" 1721)],
  tu [],
  ob N (.func ((st 146) "point_place" "point_place" 0 [] N N N N none N N 0)),
  co [(S "point_place" 1717),(S "point_place" 1718),(S "/claim/cut.py" 1719),(I 848),(I 2),(I 0),(I 0),(I 3),(R 1004),(.bool true),(I 370),(R 1005),N,(R 1006),(R 1007),(R 1008),(I 1722),(I 848),(S "/claim/cut.py" 1723)],
  ob (T "function") (.func ((st 146) "point_place" "point_place" 3 [] N N N (S "wholefaces.places" 1700) none (R 1009) N 0)),
  tu [],
  fi [],
  tu [(S "space" 1728),(S "place" 1729),(S "other" 1730),(S "moment" 1731),(S "start" 1732),(S "goal" 1733),(S "top" 1734),(S "bottom" 1735),(S "numbers" 1736),(S "at" 1737),(S "way" 1738)],
  tu [],
  ob N (.func ((st 147) "between" "between" 0 [] N N N N none N N 0)),
  co [(S "between" 1725),(S "between" 1726),(S "/claim/cut.py" 1727),(I 852),(I 4),(I 0),(I 0),(I 3),(R 1011),(.bool true),(I 370),(R 1012),N,(R 1013),(R 1014),(R 1015),(I 1739),(I 852),(S "/claim/cut.py" 1740)],
  ob (T "function") (.func ((st 147) "between" "between" 3 [] N N N (S "wholefaces.places" 1700) none (R 1016) N 0)),
  tu [],
  fi [],
  tu [(S "space" 1745),(S "points" 1746),(S "sums" 1747),(S "point" 1748),(S "at" 1749)],
  tu [],
  ob N (.func ((st 148) "mean_place" "mean_place" 0 [] N N N N none N N 0)),
  co [(S "mean_place" 1742),(S "mean_place" 1743),(S "/claim/cut.py" 1744),(I 866),(I 2),(I 0),(I 0),(I 3),(R 1018),(.bool true),(I 370),(R 1019),N,(R 1020),(R 1021),(R 1022),(I 1750),(I 866),(S "/claim/cut.py" 1751)],
  ob (T "function") (.func ((st 148) "mean_place" "mean_place" 3 [] N N N (S "wholefaces.places" 1700) none (R 1023) N 0)),
  tu [],
  fi [],
  tu [(S "body" 1758),(S "place" 1759)],
  tu [],
  ob N (.func ((st 150) "_b_check_place" "_b_check_place" 0 [] N N N N none N N 0)),
  co [(S "_b_check_place" 1755),(S "_b_check_place" 1756),(S "/claim/cut.py" 1757),(I 877),(I 2),(I 0),(I 0),(I 3),(R 1025),(.bool true),(I 370),(R 1026),N,(R 1027),(R 1028),(R 1029),(I 1760),(I 877),(S "/claim/cut.py" 1761)],
  ob (T "function") (.func ((st 150) "_b_check_place" "_b_check_place" 3 [] N N N (S "wholefaces.weights" 1753) none (R 1030) N 0)),
  tu [],
  fi [],
  ob N (.func ((st 151) "_b_fits" "_b_fits" 0 [] N N N N none N N 0))]

def os18 (P : Params) : List Obj := [
  co [(S "_b_fits" 1763),(S "_b_fits" 1764),(S "/claim/cut.py" 1765),(I 880),(I 2),(I 0),(I 0),(I 3),(R 1032),(.bool true),(I 370),(R 1033),N,N,N,(R 1034),(I 1766),(I 880),(S "/claim/cut.py" 1767)],
  ob (T "function") (.func ((st 151) "_b_fits" "_b_fits" 3 [] N N N (S "wholefaces.weights" 1753) none (R 1035) N 0)),
  tu [],
  fi [],
  ob N (.func ((st 152) "_b_weights" "_b_weights" 0 [] N N N N none N N 0)),
  co [(S "_b_weights" 1769),(S "_b_weights" 1770),(S "/claim/cut.py" 1771),(I 887),(I 2),(I 0),(I 0),(I 3),(R 1037),(.bool true),(I 370),(R 1038),N,N,N,(R 1039),(I 1772),(I 887),(S "/claim/cut.py" 1773)],
  ob (T "function") (.func ((st 152) "_b_weights" "_b_weights" 3 [] N N N (S "wholefaces.weights" 1753) none (R 1040) N 0)),
  tu [],
  fi [],
  tu [(S "body" 1778),(S "place" 1779)],
  tu [],
  ob N (.func ((st 153) "weights_in" "weights_in" 0 [] N N N N none N N 0)),
  co [(S "weights_in" 1775),(S "weights_in" 1776),(S "/claim/cut.py" 1777),(I 899),(I 2),(I 0),(I 0),(I 3),(R 1042),(.bool true),(I 370),(R 1043),N,(R 1044),(R 1045),(R 1046),(I 1780),(I 899),(S "/claim/cut.py" 1781)],
  ob (T "function") (.func ((st 153) "weights_in" "weights_in" 3 [] N N N (S "wholefaces.weights" 1753) none (R 1047) N 0)),
  tu [],
  fi [],
  ob N (.func ((st 154) "blend" "blend" 0 [] N N N N none N N 0)),
  co [(S "blend" 1783),(S "blend" 1784),(S "/claim/cut.py" 1785),(I 902),(I 2),(I 0),(I 0),(I 3),(R 1049),(.bool true),(I 370),(R 1050),N,N,N,(R 1051),(I 1786),(I 902),(S "/claim/cut.py" 1787)],
  ob (T "function") (.func ((st 154) "blend" "blend" 3 [] N N N (S "wholefaces.weights" 1753) none (R 1052) N 0)),
  tu [],
  fi [],
  ob N (.func ((st 155) "holds" "holds" 0 [] N N N N none N N 0)),
  co [(S "holds" 1789),(S "holds" 1790),(S "/claim/cut.py" 1791),(I 908),(I 2),(I 0),(I 0),(I 3),(R 1054),(.bool true),(I 370),(R 1055),N,N,N,(R 1056),(I 1792),(I 908),(S "/claim/cut.py" 1793)],
  ob (T "function") (.func ((st 155) "holds" "holds" 3 [] N N N (S "wholefaces.weights" 1753) none (R 1057) N 0)),
  tu [],
  fi [],
  ob N (.func ((st 156) "carrier_in" "carrier_in" 0 [] N N N N none N N 0)),
  co [(S "carrier_in" 1795),(S "carrier_in" 1796),(S "/claim/cut.py" 1797),(I 911),(I 2),(I 0),(I 0),(I 3),(R 1059),(.bool true),(I 370),(R 1060),N,N,N,(R 1061),(I 1798),(I 911),(S "/claim/cut.py" 1799)],
  ob (T "function") (.func ((st 156) "carrier_in" "carrier_in" 3 [] N N N (S "wholefaces.weights" 1753) none (R 1062) N 0)),
  tu [],
  fi [],
  tu [(S "space" 1806),(S "block" 1807),(S "generation" 1808)],
  tu [],
  ob N (.func ((st 158) "_b_check_generation" "_b_check_generation" 0 [] N N N N none N N 0)),
  co [(S "_b_check_generation" 1803),(S "_b_check_generation" 1804),(S "/claim/cut.py" 1805),(I 920),(I 3),(I 0),(I 0),(I 3),(R 1064),(.bool true),(I 370),(R 1065),N,(R 1066),(R 1067),(R 1068),(I 1809),(I 920),(S "/claim/cut.py" 1810)],
  ob (T "function") (.func ((st 158) "_b_check_generation" "_b_check_generation" 3 [] N N N (S "wholefaces.families" 1801) none (R 1069) N 0)),
  tu [],
  fi [],
  tu [(S "block" 1815),(S "weights" 1816),(S "reach" 1817),(S "low" 1818),(S "high" 1819),(S "before" 1820),(S "behind" 1821)],
  tu [],
  ob N (.func ((st 159) "_b_into_half" "_b_into_half" 0 [] N N N N none N N 0)),
  co [(S "_b_into_half" 1812),(S "_b_into_half" 1813),(S "/claim/cut.py" 1814),(I 923),(I 2),(I 0),(I 0),(I 3),(R 1071),(.bool true),(I 370),(R 1072),N,(R 1073),(R 1074),(R 1075),(I 1822),(I 923),(S "/claim/cut.py" 1823)],
  ob (T "function") (.func ((st 159) "_b_into_half" "_b_into_half" 3 [] N N N (S "wholefaces.families" 1801) none (R 1076) N 0)),
  tu [],
  fi [],
  ob N (.func ((st 160) "family_of" "family_of" 0 [] N N N N none N N 0)),
  co [(S "family_of" 1825),(S "family_of" 1826),(S "/claim/cut.py" 1827),(I 930),(I 3),(I 0),(I 0),(I 3),(R 1078),(.bool true),(I 370),(R 1079),N,N,N,(R 1080),(I 1828),(I 930),(S "/claim/cut.py" 1829)],
  ob (T "function") (.func ((st 160) "family_of" "family_of" 3 [] N N N (S "wholefaces.families" 1801) none (R 1081) N 0)),
  tu [],
  fi [],
  ob N (.func ((st 161) "down_to" "down_to" 0 [] N N N N none N N 0)),
  co [(S "down_to" 1831),(S "down_to" 1832),(S "/claim/cut.py" 1833),(I 937),(I 4),(I 0),(I 0),(I 3),(R 1083),(.bool true),(I 370),(R 1084),N,N,N,(R 1085),(I 1834),(I 937),(S "/claim/cut.py" 1835)],
  ob (T "function") (.func ((st 161) "down_to" "down_to" 3 [] N N N (S "wholefaces.families" 1801) none (R 1086) N 0)),
  tu [],
  fi [],
  ob N (.func ((st 163) "value_of" "value_of" 0 [] N N N N none N N 0)),
  co [(S "value_of" 1839),(S "value_of" 1840),(S "/claim/cut.py" 1841),(I 949),(I 3),(I 0),(I 0),(I 3),(R 1088),(.bool true),(I 370),(R 1089),N,N,N,(R 1090),(I 1842),(I 949),(S "/claim/cut.py" 1843)],
  ob (T "function") (.func ((st 163) "value_of" "value_of" 3 [] N N N (S "wholefaces.fieldvalues" 1837) none (R 1091) N 0)),
  tu [],
  fi []]

def os19 (P : Params) : List Obj := [
  ob N (.func ((st 164) "field_at" "field_at" 0 [] N N N N none N N 0)),
  co [(S "field_at" 1845),(S "field_at" 1846),(S "/claim/cut.py" 1847),(I 958),(I 3),(I 0),(I 0),(I 3),(R 1093),(.bool true),(I 370),(R 1094),N,N,N,(R 1095),(I 1848),(I 958),(S "/claim/cut.py" 1849)],
  ob (T "function") (.func ((st 164) "field_at" "field_at" 3 [] N N N (S "wholefaces.fieldvalues" 1837) none (R 1096) N 0)),
  tu [],
  fi [],
  ob N (.func ((st 165) "_c_value" "_c_value" 0 [] N N N N none N N 0)),
  co [(S "_c_value" 1851),(S "_c_value" 1852),(S "/claim/cut.py" 1853),(I 965),(I 4),(I 0),(I 0),(I 3),(R 1098),(.bool true),(I 370),(R 1099),N,N,N,(R 1100),(I 1854),(I 965),(S "/claim/cut.py" 1855)],
  ob (T "function") (.func ((st 165) "_c_value" "_c_value" 3 [] N N N (S "wholefaces.fieldvalues" 1837) none (R 1101) N 0)),
  tu [],
  fi [],
  tu [(S "space" 1862),(S "block" 1863)],
  tu [],
  ob N (.func ((st 167) "_b_check_below_top" "_b_check_below_top" 0 [] N N N N none N N 0)),
  co [(S "_b_check_below_top" 1859),(S "_b_check_below_top" 1860),(S "/claim/cut.py" 1861),(I 987),(I 2),(I 0),(I 0),(I 3),(R 1103),(.bool true),(I 370),(R 1104),N,(R 1105),(R 1106),(R 1107),(I 1864),(I 987),(S "/claim/cut.py" 1865)],
  ob (T "function") (.func ((st 167) "_b_check_below_top" "_b_check_below_top" 3 [] N N N (S "wholefaces.halving" 1857) none (R 1108) N 0)),
  tu [],
  fi [],
  tu [(S "space" 1870),(S "block" 1871)],
  tu [],
  ob N (.func ((st 168) "generation_in" "generation_in" 0 [] N N N N none N N 0)),
  co [(S "generation_in" 1867),(S "generation_in" 1868),(S "/claim/cut.py" 1869),(I 991),(I 2),(I 0),(I 0),(I 3),(R 1110),(.bool true),(I 370),(R 1111),N,(R 1112),(R 1113),(R 1114),(I 1872),(I 991),(S "/claim/cut.py" 1873)],
  ob (T "function") (.func ((st 168) "generation_in" "generation_in" 3 [] N N N (S "wholefaces.halving" 1857) none (R 1115) N 0)),
  tu [],
  fi [],
  tu [(S "space" 1878),(S "block" 1879)],
  tu [],
  ob N (.func ((st 169) "tips_in" "tips_in" 0 [] N N N N none N N 0)),
  co [(S "tips_in" 1875),(S "tips_in" 1876),(S "/claim/cut.py" 1877),(I 994),(I 2),(I 0),(I 0),(I 3),(R 1117),(.bool true),(I 370),(R 1118),N,(R 1119),(R 1120),(R 1121),(I 1880),(I 994),(S "/claim/cut.py" 1881)],
  ob (T "function") (.func ((st 169) "tips_in" "tips_in" 3 [] N N N (S "wholefaces.halving" 1857) none (R 1122) N 0)),
  tu [],
  fi [],
  tu [(S "space" 1886),(S "block" 1887)],
  tu [],
  ob N (.func ((st 170) "middle_of" "middle_of" 0 [] N N N N none N N 0)),
  co [(S "middle_of" 1883),(S "middle_of" 1884),(S "/claim/cut.py" 1885),(I 997),(I 2),(I 0),(I 0),(I 3),(R 1124),(.bool true),(I 370),(R 1125),N,(R 1126),(R 1127),(R 1128),(I 1888),(I 997),(S "/claim/cut.py" 1889)],
  ob (T "function") (.func ((st 170) "middle_of" "middle_of" 3 [] N N N (S "wholefaces.halving" 1857) none (R 1129) N 0)),
  tu [],
  fi [],
  tu [(S "space" 1894),(S "block" 1895)],
  tu [],
  ob N (.func ((st 171) "halves_of" "halves_of" 0 [] N N N N none N N 0)),
  co [(S "halves_of" 1891),(S "halves_of" 1892),(S "/claim/cut.py" 1893),(I 1000),(I 2),(I 0),(I 0),(I 3),(R 1131),(.bool true),(I 370),(R 1132),N,(R 1133),(R 1134),(R 1135),(I 1896),(I 1000),(S "/claim/cut.py" 1897)],
  ob (T "function") (.func ((st 171) "halves_of" "halves_of" 3 [] N N N (S "wholefaces.halving" 1857) none (R 1136) N 0)),
  tu [],
  fi [],
  ob N (.func ((st 173) "_b_orders" "_b_orders" 0 [] N N N N none N N 0)),
  co [(S "_b_orders" 1901),(S "_b_orders" 1902),(S "/claim/cut.py" 1903),(I 1004),(I 1),(I 0),(I 0),(I 3),(R 1138),(.bool true),(I 370),(R 1139),N,N,N,(R 1140),(I 1904),(I 1004),(S "/claim/cut.py" 1905)],
  ob (T "function") (.func ((st 173) "_b_orders" "_b_orders" 3 [] N N N (S "wholefaces.roots" 1899) none (R 1141) N 0)),
  tu [],
  fi [],
  tu [(S "start" 1910),(S "order" 1911),(S "steps" 1912),(S "here" 1913),(S "corners" 1914),(S "axis" 1915)],
  tu [],
  ob N (.func ((st 174) "_b_walk" "_b_walk" 0 [] N N N N none N N 0)),
  co [(S "_b_walk" 1907),(S "_b_walk" 1908),(S "/claim/cut.py" 1909),(I 1009),(I 3),(I 0),(I 0),(I 3),(R 1143),(.bool true),(I 370),(R 1144),N,(R 1145),(R 1146),(R 1147),(I 1916),(I 1009),(S "/claim/cut.py" 1917)],
  ob (T "function") (.func ((st 174) "_b_walk" "_b_walk" 3 [] N N N (S "wholefaces.roots" 1899) none (R 1148) N 0)),
  tu [],
  fi [],
  ob N (.func ((st 175) "cube_roots" "cube_roots" 0 [] N N N N none N N 0)),
  co [(S "cube_roots" 1919),(S "cube_roots" 1920),(S "/claim/cut.py" 1921),(I 1016),(I 2),(I 0),(I 0),(I 3),(R 1150),(.bool true),(I 370),(R 1151),N,N,N,(R 1152),(I 1922),(I 1016),(S "/claim/cut.py" 1923)],
  ob (T "function") (.func ((st 175) "cube_roots" "cube_roots" 3 [] N N N (S "wholefaces.roots" 1899) none (R 1153) N 0))]

def os20 (P : Params) : List Obj := [
  tu [],
  fi [],
  tu [(S "space" 1928),(S "thing" 1929)],
  tu [],
  ob N (.func ((st 176) "is_root" "is_root" 0 [] N N N N none N N 0)),
  co [(S "is_root" 1925),(S "is_root" 1926),(S "/claim/cut.py" 1927),(I 1024),(I 2),(I 0),(I 0),(I 3),(R 1155),(.bool true),(I 370),(R 1156),N,(R 1157),(R 1158),(R 1159),(I 1930),(I 1024),(S "/claim/cut.py" 1931)],
  ob (T "function") (.func ((st 176) "is_root" "is_root" 3 [] N N N (S "wholefaces.roots" 1899) none (R 1160) N 0)),
  tu [],
  fi [],
  ob N (.func ((st 177) "root_cube" "root_cube" 0 [] N N N N none N N 0)),
  co [(S "root_cube" 1933),(S "root_cube" 1934),(S "/claim/cut.py" 1935),(I 1026),(I 2),(I 0),(I 0),(I 3),(R 1162),(.bool true),(I 370),(R 1163),N,N,N,(R 1164),(I 1936),(I 1026),(S "/claim/cut.py" 1937)],
  ob (T "function") (.func ((st 177) "root_cube" "root_cube" 3 [] N N N (S "wholefaces.roots" 1899) none (R 1165) N 0)),
  tu [],
  fi [],
  tu [(S "space" 1944),(S "block" 1945),(S "generation" 1946),(S "letters" 1947),(S "_" 1948),(S "letter" 1949)],
  tu [],
  ob N (.func ((st 179) "_b_up_to" "_b_up_to" 0 [] N N N N none N N 0)),
  co [(S "_b_up_to" 1941),(S "_b_up_to" 1942),(S "/claim/cut.py" 1943),(I 1032),(I 3),(I 0),(I 0),(I 3),(R 1167),(.bool true),(I 370),(R 1168),N,(R 1169),(R 1170),(R 1171),(I 1950),(I 1032),(S "/claim/cut.py" 1951)],
  ob (T "function") (.func ((st 179) "_b_up_to" "_b_up_to" 3 [] N N N (S "wholefaces.parents" 1939) none (R 1172) N 0)),
  tu [],
  fi [],
  tu [(S "space" 1956),(S "thing" 1957)],
  tu [],
  ob N (.func ((st 180) "is_block" "is_block" 0 [] N N N N none N N 0)),
  co [(S "is_block" 1953),(S "is_block" 1954),(S "/claim/cut.py" 1955),(I 1039),(I 2),(I 0),(I 0),(I 3),(R 1174),(.bool true),(I 370),(R 1175),N,(R 1176),(R 1177),(R 1178),(I 1958),(I 1039),(S "/claim/cut.py" 1959)],
  ob (T "function") (.func ((st 180) "is_block" "is_block" 3 [] N N N (S "wholefaces.parents" 1939) none (R 1179) N 0)),
  tu [],
  fi [],
  tu [(S "space" 1964),(S "block" 1965)],
  tu [],
  ob N (.func ((st 181) "root_of" "root_of" 0 [] N N N N none N N 0)),
  co [(S "root_of" 1961),(S "root_of" 1962),(S "/claim/cut.py" 1963),(I 1041),(I 2),(I 0),(I 0),(I 3),(R 1181),(.bool true),(I 370),(R 1182),N,(R 1183),(R 1184),(R 1185),(I 1966),(I 1041),(S "/claim/cut.py" 1967)],
  ob (T "function") (.func ((st 181) "root_of" "root_of" 3 [] N N N (S "wholefaces.parents" 1939) none (R 1186) N 0)),
  tu [],
  fi [],
  tu [(S "space" 1972),(S "block" 1973)],
  tu [],
  ob N (.func ((st 182) "path_of" "path_of" 0 [] N N N N none N N 0)),
  co [(S "path_of" 1969),(S "path_of" 1970),(S "/claim/cut.py" 1971),(I 1044),(I 2),(I 0),(I 0),(I 3),(R 1188),(.bool true),(I 370),(R 1189),N,(R 1190),(R 1191),(R 1192),(I 1974),(I 1044),(S "/claim/cut.py" 1975)],
  ob (T "function") (.func ((st 182) "path_of" "path_of" 3 [] N N N (S "wholefaces.parents" 1939) none (R 1193) N 0)),
  tu [],
  fi [],
  ob N (.func ((st 183) "block_at" "block_at" 0 [] N N N N none N N 0)),
  co [(S "block_at" 1977),(S "block_at" 1978),(S "/claim/cut.py" 1979),(I 1047),(I 3),(I 0),(I 0),(I 3),(R 1195),(.bool true),(I 370),(R 1196),N,N,N,(R 1197),(I 1980),(I 1047),(S "/claim/cut.py" 1981)],
  ob (T "function") (.func ((st 183) "block_at" "block_at" 3 [] N N N (S "wholefaces.parents" 1939) none (R 1198) N 0)),
  tu [],
  fi [],
  tu [(S "space" 1986),(S "block" 1987),(S "found" 1988)],
  tu [],
  ob N (.func ((st 184) "parent_of" "parent_of" 0 [] N N N N none N N 0)),
  co [(S "parent_of" 1983),(S "parent_of" 1984),(S "/claim/cut.py" 1985),(I 1057),(I 2),(I 0),(I 0),(I 3),(R 1200),(.bool true),(I 370),(R 1201),N,(R 1202),(R 1203),(R 1204),(I 1989),(I 1057),(S "/claim/cut.py" 1990)],
  ob (T "function") (.func ((st 184) "parent_of" "parent_of" 3 [] N N N (S "wholefaces.parents" 1939) none (R 1205) N 0)),
  tu [],
  fi [],
  tu [(S "space" 1995),(S "block" 1996),(S "generation" 1997)],
  tu [],
  ob N (.func ((st 185) "ancestor_of" "ancestor_of" 0 [] N N N N none N N 0)),
  co [(S "ancestor_of" 1992),(S "ancestor_of" 1993),(S "/claim/cut.py" 1994),(I 1063),(I 3),(I 0),(I 0),(I 3),(R 1207),(.bool true),(I 370),(R 1208),N,(R 1209),(R 1210),(R 1211),(I 1998),(I 1063),(S "/claim/cut.py" 1999)],
  ob (T "function") (.func ((st 185) "ancestor_of" "ancestor_of" 3 [] N N N (S "wholefaces.parents" 1939) none (R 1212) N 0)),
  tu []]

def os21 (P : Params) : List Obj := [
  fi [],
  tu [(S "space" 2004),(S "block" 2005),(S "other" 2006),(S "generation" 2007)],
  tu [],
  ob N (.func ((st 186) "comes_of" "comes_of" 0 [] N N N N none N N 0)),
  co [(S "comes_of" 2001),(S "comes_of" 2002),(S "/claim/cut.py" 2003),(I 1068),(I 3),(I 0),(I 0),(I 3),(R 1214),(.bool true),(I 370),(R 1215),N,(R 1216),(R 1217),(R 1218),(I 2008),(I 1068),(S "/claim/cut.py" 2009)],
  ob (T "function") (.func ((st 186) "comes_of" "comes_of" 3 [] N N N (S "wholefaces.parents" 1939) none (R 1219) N 0)),
  tu [],
  fi [],
  ob N (.func ((st 187) "ordered" "ordered" 0 [] N N N N none N N 0)),
  co [(S "ordered" 2011),(S "ordered" 2012),(S "/claim/cut.py" 2013),(I 1075),(I 2),(I 0),(I 0),(I 3),(R 1221),(.bool true),(I 370),(R 1222),N,N,N,(R 1223),(I 2014),(I 1075),(S "/claim/cut.py" 2015)],
  ob (T "function") (.func ((st 187) "ordered" "ordered" 3 [] N N N (S "wholefaces.parents" 1939) none (R 1224) N 0)),
  tu [],
  fi [],
  ob N (.func ((st 188) "own_cube" "own_cube" 0 [] N N N N none N N 0)),
  co [(S "own_cube" 2017),(S "own_cube" 2018),(S "/claim/cut.py" 2019),(I 1084),(I 2),(I 0),(I 0),(I 3),(R 1226),(.bool true),(I 370),(R 1227),N,N,N,(R 1228),(I 2020),(I 1084),(S "/claim/cut.py" 2021)],
  ob (T "function") (.func ((st 188) "own_cube" "own_cube" 3 [] N N N (S "wholefaces.parents" 1939) none (R 1229) N 0)),
  tu [],
  fi [],
  ob N (.func ((st 190) "place_in" "place_in" 0 [] N N N N none N N 0)),
  co [(S "place_in" 2025),(S "place_in" 2026),(S "/claim/cut.py" 2027),(I 1089),(I 4),(I 0),(I 0),(I 3),(R 1231),(.bool true),(I 370),(R 1232),N,N,N,(R 1233),(I 2028),(I 1089),(S "/claim/cut.py" 2029)],
  ob (T "function") (.func ((st 190) "place_in" "place_in" 3 [] N N N (S "wholefaces.regions" 2023) none (R 1234) N 0)),
  tu [],
  fi [],
  ob N (.func ((st 191) "halfwise" "halfwise" 0 [] N N N N none N N 0)),
  co [(S "halfwise" 2031),(S "halfwise" 2032),(S "/claim/cut.py" 2033),(I 1094),(I 4),(I 0),(I 0),(I 3),(R 1236),(.bool true),(I 370),(R 1237),N,N,N,(R 1238),(I 2034),(I 1094),(S "/claim/cut.py" 2035)],
  ob (T "function") (.func ((st 191) "halfwise" "halfwise" 3 [] N N N (S "wholefaces.regions" 2023) none (R 1239) N 0)),
  tu [],
  fi [],
  ob N (.func ((st 192) "status_of" "status_of" 0 [] N N N N none N N 0)),
  co [(S "status_of" 2037),(S "status_of" 2038),(S "/claim/cut.py" 2039),(I 1099),(I 4),(I 0),(I 0),(I 3),(R 1241),(.bool true),(I 370),(R 1242),N,N,N,(R 1243),(I 2040),(I 1099),(S "/claim/cut.py" 2041)],
  ob (T "function") (.func ((st 192) "status_of" "status_of" 3 [] N N N (S "wholefaces.regions" 2023) none (R 1244) N 0)),
  tu [],
  fi [],
  tu [(S "space" 2046),(S "regions" 2047),(S "region" 2048)],
  tu [],
  ob N (.func ((st 193) "_c_check_region" "_c_check_region" 0 [] N N N N none N N 0)),
  co [(S "_c_check_region" 2043),(S "_c_check_region" 2044),(S "/claim/cut.py" 2045),(I 1105),(I 3),(I 0),(I 0),(I 3),(R 1246),(.bool true),(I 370),(R 1247),N,(R 1248),(R 1249),(R 1250),(I 2049),(I 1105),(S "/claim/cut.py" 2050)],
  ob (T "function") (.func ((st 193) "_c_check_region" "_c_check_region" 3 [] N N N (S "wholefaces.regions" 2023) none (R 1251) N 0)),
  tu [],
  fi [],
  ob N (.func ((st 194) "_c_has_place" "_c_has_place" 0 [] N N N N none N N 0)),
  co [(S "_c_has_place" 2052),(S "_c_has_place" 2053),(S "/claim/cut.py" 2054),(I 1110),(I 4),(I 0),(I 0),(I 3),(R 1253),(.bool true),(I 370),(R 1254),N,N,N,(R 1255),(I 2055),(I 1110),(S "/claim/cut.py" 2056)],
  ob (T "function") (.func ((st 194) "_c_has_place" "_c_has_place" 3 [] N N N (S "wholefaces.regions" 2023) none (R 1256) N 0)),
  tu [],
  fi [],
  ob N (.func ((st 195) "_c_half_status" "_c_half_status" 0 [] N N N N none N N 0)),
  co [(S "_c_half_status" 2058),(S "_c_half_status" 2059),(S "/claim/cut.py" 2060),(I 1127),(I 4),(I 0),(I 0),(I 3),(R 1258),(.bool true),(I 370),(R 1259),N,N,N,(R 1260),(I 2061),(I 1127),(S "/claim/cut.py" 2062)],
  ob (T "function") (.func ((st 195) "_c_half_status" "_c_half_status" 3 [] N N N (S "wholefaces.regions" 2023) none (R 1261) N 0)),
  tu [],
  fi [],
  tu [(S "lows" 2067),(S "highs" 2068),(S "block" 2069),(S "inside" 2070),(S "low" 2071),(S "high" 2072),(S "numbers" 2073)],
  tu [],
  ob N (.func ((st 196) "_c_box_status" "_c_box_status" 0 [] N N N N none N N 0)),
  co [(S "_c_box_status" 2064),(S "_c_box_status" 2065),(S "/claim/cut.py" 2066),(I 1147),(I 3),(I 0),(I 0),(I 3),(R 1263),(.bool true),(I 370),(R 1264),N,(R 1265),(R 1266),(R 1267),(I 2074),(I 1147),(S "/claim/cut.py" 2075)],
  ob (T "function") (.func ((st 196) "_c_box_status" "_c_box_status" 3 [] N N N (S "wholefaces.regions" 2023) none (R 1268) N 0)),
  tu [],
  fi [],
  tu [(S "dims" 2080),(S "table" 2081),(S "region" 2082),(S "block" 2083),(S "generation" 2084),(S "told" 2085),(S "one" 2086),(S "other" 2087),(S "status" 2088)],
  tu [],
  ob N (.func ((st 197) "_c_whole_status" "_c_whole_status" 0 [] N N N N none N N 0))]

def os22 (P : Params) : List Obj := [
  co [(S "_c_whole_status" 2077),(S "_c_whole_status" 2078),(S "/claim/cut.py" 2079),(I 1154),(I 5),(I 0),(I 0),(I 3),(R 1270),(.bool true),(I 370),(R 1271),N,(R 1272),(R 1273),(R 1274),(I 2089),(I 1154),(S "/claim/cut.py" 2090)],
  ob (T "function") (.func ((st 197) "_c_whole_status" "_c_whole_status" 3 [] N N N (S "wholefaces.regions" 2023) none (R 1275) N 0)),
  tu [],
  fi [],
  ob N (.func ((st 198) "_c_halves" "_c_halves" 0 [] N N N N none N N 0)),
  co [(S "_c_halves" 2092),(S "_c_halves" 2093),(S "/claim/cut.py" 2094),(I 1163),(I 3),(I 0),(I 0),(I 3),(R 1277),(.bool true),(I 370),(R 1278),N,N,N,(R 1279),(I 2095),(I 1163),(S "/claim/cut.py" 2096)],
  ob (T "function") (.func ((st 198) "_c_halves" "_c_halves" 3 [] N N N (S "wholefaces.regions" 2023) none (R 1280) N 0)),
  tu [],
  fi [],
  ob N (.func ((st 200) "is_solid" "is_solid" 0 [] N N N N none N N 0)),
  co [(S "is_solid" 2100),(S "is_solid" 2101),(S "/claim/cut.py" 2102),(I 1168),(I 1),(I 0),(I 0),(I 3),(R 1282),(.bool true),(I 370),(R 1283),N,N,N,(R 1284),(I 2103),(I 1168),(S "/claim/cut.py" 2104)],
  ob (T "function") (.func ((st 200) "is_solid" "is_solid" 3 [] N N N (S "wholefaces.solids" 2098) none (R 1285) N 0)),
  tu [],
  fi [],
  tu [(S "space" 2109),(S "roots" 2110),(S "k" 2111),(S "root" 2112)],
  tu [],
  ob N (.func ((st 201) "solid_of" "solid_of" 0 [] N N N N none N N 0)),
  co [(S "solid_of" 2106),(S "solid_of" 2107),(S "/claim/cut.py" 2108),(I 1177),(I 1),(I 0),(I 0),(I 7),(R 1287),(.bool true),(I 370),(R 1288),N,(R 1289),(R 1290),(R 1291),(I 2113),(I 1177),(S "/claim/cut.py" 2114)],
  ob (T "function") (.func ((st 201) "solid_of" "solid_of" 3 [] N N N (S "wholefaces.solids" 2098) none (R 1292) N 0)),
  tu [],
  fi [],
  ob N (.func ((st 202) "solid_from" "solid_from" 0 [] N N N N none N N 0)),
  co [(S "solid_from" 2116),(S "solid_from" 2117),(S "/claim/cut.py" 2118),(I 1184),(I 4),(I 0),(I 0),(I 3),(R 1294),(.bool true),(I 370),(R 1295),N,N,N,(R 1296),(I 2119),(I 1184),(S "/claim/cut.py" 2120)],
  ob (T "function") (.func ((st 202) "solid_from" "solid_from" 3 [] N N N (S "wholefaces.solids" 2098) none (R 1297) N 0)),
  tu [],
  fi [],
  ob N (.func ((st 203) "_c_cubes_fit" "_c_cubes_fit" 0 [] N N N N none N N 0)),
  co [(S "_c_cubes_fit" 2122),(S "_c_cubes_fit" 2123),(S "/claim/cut.py" 2124),(I 1199),(I 2),(I 0),(I 0),(I 3),(R 1299),(.bool true),(I 370),(R 1300),N,N,N,(R 1301),(I 2125),(I 1199),(S "/claim/cut.py" 2126)],
  ob (T "function") (.func ((st 203) "_c_cubes_fit" "_c_cubes_fit" 3 [] N N N (S "wholefaces.solids" 2098) none (R 1302) N 0)),
  tu [],
  fi [],
  ob N (.func ((st 205) "is_frame" "is_frame" 0 [] N N N N none N N 0)),
  co [(S "is_frame" 2130),(S "is_frame" 2131),(S "/claim/cut.py" 2132),(I 1206),(I 1),(I 0),(I 0),(I 3),(R 1304),(.bool true),(I 370),(R 1305),N,N,N,(R 1306),(I 2133),(I 1206),(S "/claim/cut.py" 2134)],
  ob (T "function") (.func ((st 205) "is_frame" "is_frame" 3 [] N N N (S "wholefaces.frames" 2128) none (R 1307) N 0)),
  tu [],
  fi [],
  ob N (.func ((st 206) "frame_of" "frame_of" 0 [] N N N N none N N 0)),
  co [(S "frame_of" 2136),(S "frame_of" 2137),(S "/claim/cut.py" 2138),(I 1217),(I 1),(I 0),(I 0),(I 3),(R 1309),(.bool true),(I 370),(R 1310),N,N,N,(R 1311),(I 2139),(I 1217),(S "/claim/cut.py" 2140)],
  ob (T "function") (.func ((st 206) "frame_of" "frame_of" 3 [] N N N (S "wholefaces.frames" 2128) none (R 1312) N 0))]

def objs1 (w : World) : List Obj := anew 0 (objs0 w) (up1 w.params) ++ (os14 w.params ++ (os15 w.params ++ (os16 w.params ++ (os17 w.params ++ (os18 w.params ++ (os19 w.params ++ (os20 w.params ++ (os21 w.params ++ (os22 w.params)))))))))
def toks1 : Nat := 2142
def up2 (P : Params) : List (Nat × Obj) := [
  (3, ob (T "dict") (.dict (L [E P "__name__" 165 (S "law_wholefaces_k76_whole_names_a_to_c" 2782),E P "__doc__" 166 N,E P "__package__" 167 N,E P "__loader__" 168 (B "__main__.__loader__#opaque"),E P "__spec__" 169 N,E P "__annotations__" 170 (R 6),E P "__builtins__" 171 (R 4),E P "__file__" 173 (S "/claim/cut.py" 172),E P "__cached__" 174 N,E P "gcd" 369 (B "math.gcd"),E P "MeshError" 395 (R 52),E P "ShapeError" 411 (R 65),E P "TextError" 427 (R 77),E P "NotUsable" 454 (R 96),E P "CutRoot" 479 (R 115),E P "EmptySolid" 495 (R 127),E P "InvalidText" 522 (R 146),E P "is_integer" 531 (R 155),E P "is_number" 538 (R 162),E P "is_quotient" 547 (R 169),E P "is_space" 556 (R 176),E P "_are_integers" 565 (R 183),E P "is_point" 573 (R 190),E P "is_new" 583 (R 197),E P "is_place" 593 (R 204),E P "is_body" 602 (R 211),E P "b_lowest" 614 (R 218),E P "b_odd" 620 (R 223),E P "b_even_corners" 626 (R 228),E P "b_generation" 636 (R 235),E P "b_reach" 644 (R 242),E P "b_centre" 650 (R 247),E P "b_moved" 659 (R 254),E P "b_turn" 665 (R 259),E P "b_is_row" 681 (R 266),E P "b_check" 690 (R 273),E P "b_halves" 699 (R 280),E P "b_parent" 713 (R 287),E P "b_differences" 719 (R 292),E P "b_determinant" 725 (R 297),E P "b_cross" 733 (R 304),E P "_look_new" 743 (R 311),E P "_grain" 752 (R 318),E P "_open" 758 (R 323),E P "grain_of" 766 (R 330),E P "open_of" 774 (R 337),E P "level_of" 782 (R 344),E P "generation_of" 794 (R 351),E P "seat_of" 806 (R 358),E P "tips_of" 819 (R 365),E P "seat_corners" 825 (R 370),E P "key_of" 835 (R 377),E P "in_order" 841 (R 382),E P "held_points" 849 (R 387),E P "_lowest_quotient" 860 (R 394),E P "_look_quotients" 868 (R 401),E P "quotient_of" 876 (R 408),E P "plus" 884 (R 415),E P "minus" 892 (R 422),E P "times" 900 (R 429),E P "over" 908 (R 436),E P "less" 916 (R 443),E P "_b_dot" 924 (R 448),E P "_b_normals" 930 (R 453),E P "_b_cosine" 940 (R 460),E P "_b_degrees" 947 (R 467),E P "_b_check_sides" 956 (R 474),E P "lengths_of" 962 (R 479),E P "cosine_of" 972 (R 486),E P "degrees_of" 982 (R 493),E P "angles_of" 995 (R 500),E P "measure_of" 1004 (R 507),E P "is_flat" 1011 (R 514),E P "side_book" 1020 (R 521),E P "border_sides" 1026 (R 526),E P "pieces_of" 1032 (R 531),E P "euler_of" 1038 (R 536),E P "solid_measure" 1044 (R 541),E P "_c_bodies_fit" 1050 (R 546),E P "_c_sides" 1056 (R 551),E P "_c_faces" 1062 (R 556),E P "_b_check_edge" 1074 (R 563),E P "_b_has_centre" 1080 (R 568),E P "half_way" 1090 (R 575),E P "road_to" 1102 (R 582),E P "SMALL" 1106 (S "abcdefghijklmnopqrstuvwxyz" 1105),E P "FIGURES" 1108 (S "0123456789" 1107),E P "MARKS_OF_TEXTS" 1121 (R 583),E P "RESERVED" 1158 (R 584),E P "words_of" 1167 (R 591),E P "_c_scanned" 1177 (R 598),E P "_c_word_end" 1186 (R 605),E P "_c_row_end" 1196 (R 612),E P "_c_is_word_name" 1203 (R 619),E P "_c_are_names" 1209 (R 624),E P "_c_is_number_word" 1216 (R 631),E P "_c_is_path" 1223 (R 638),E P "WordReader" 1378 (R 750),E P "_c_read_either" 1387 (R 761),E P "_c_read_both" 1396 (R 768),E P "_c_read_unit" 1405 (R 775),E P "_c_logic_line" 1414 (R 782),E P "_c_within" 1425 (R 789),E P "_c_point_line" 1431 (R 794),E P "MARKS" 1439 (R 795),E P "PLAIN_QUANTITIES" 1445 (R 796),E P "is_region" 1454 (R 803),E P "is_expression" 1463 (R 810),E P "is_sum" 1472 (R 817),E P "is_test" 1482 (R 824),E P "is_plan" 1488 (R 829),E P "_c_plan_begins" 1499 (R 836),E P "_c_is_table" 1505 (R 841),E P "_c_table_names" 1511 (R 846),E P "_c_regions_fit" 1517 (R 851),E P "_c_fields_fit" 1523 (R 856),E P "_c_is_pair" 1530 (R 863),E P "_c_is_tree" 1537 (R 870),E P "_c_is_axis" 1545 (R 877),E P "_c_name_fits" 1553 (R 884),E P "_c_region_fits" 1559 (R 889),E P "_c_box_fits" 1565 (R 894),E P "_c_upto_fits" 1576 (R 901),E P "_c_expression_fits" 1582 (R 906),E P "_c_terms_fit" 1592 (R 913),E P "_c_sum_fits" 1598 (R 918),E P "_c_quantity_fits" 1607 (R 925),E P "_c_test_fits" 1613 (R 930),E P "_c_is_block_name" 1620 (R 937),E P "read_expression" 1633 (R 944),E P "expression_line" 1640 (R 951),E P "_c_read_expression" 1651 (R 958),E P "_c_read_term" 1661 (R 965),E P "_c_read_factor" 1673 (R 972),E P "_c_expression_words" 1679 (R 977),E P "_c_terms_words" 1690 (R 984),E P "_c_bound_words" 1699 (R 991),E P "_lowest_place" 1707 (R 996),E P "place_of" 1716 (R 1003),E P "point_place" 1724 (R 1010),E P "between" 1741 (R 1017),E P "mean_place" 1752 (R 1024),E P "_b_check_place" 1762 (R 1031),E P "_b_fits" 1768 (R 1036),E P "_b_weights" 1774 (R 1041),E P "weights_in" 1782 (R 1048),E P "blend" 1788 (R 1053),E P "holds" 1794 (R 1058),E P "carrier_in" 1800 (R 1063),E P "_b_check_generation" 1811 (R 1070),E P "_b_into_half" 1824 (R 1077),E P "family_of" 1830 (R 1082),E P "down_to" 1836 (R 1087),E P "value_of" 1844 (R 1092),E P "field_at" 1850 (R 1097),E P "_c_value" 1856 (R 1102),E P "_b_check_below_top" 1866 (R 1109),E P "generation_in" 1874 (R 1116),E P "tips_in" 1882 (R 1123),E P "middle_of" 1890 (R 1130),E P "halves_of" 1898 (R 1137),E P "_b_orders" 1906 (R 1142),E P "_b_walk" 1918 (R 1149),E P "cube_roots" 1924 (R 1154),E P "is_root" 1932 (R 1161),E P "root_cube" 1938 (R 1166),E P "_b_up_to" 1952 (R 1173),E P "is_block" 1960 (R 1180),E P "root_of" 1968 (R 1187),E P "path_of" 1976 (R 1194),E P "block_at" 1982 (R 1199),E P "parent_of" 1991 (R 1206),E P "ancestor_of" 2000 (R 1213),E P "comes_of" 2010 (R 1220),E P "ordered" 2016 (R 1225),E P "own_cube" 2022 (R 1230),E P "place_in" 2030 (R 1235),E P "halfwise" 2036 (R 1240),E P "status_of" 2042 (R 1245),E P "_c_check_region" 2051 (R 1252),E P "_c_has_place" 2057 (R 1257),E P "_c_half_status" 2063 (R 1262),E P "_c_box_status" 2076 (R 1269),E P "_c_whole_status" 2091 (R 1276),E P "_c_halves" 2097 (R 1281),E P "is_solid" 2105 (R 1286),E P "solid_of" 2115 (R 1293),E P "solid_from" 2121 (R 1298),E P "_c_cubes_fit" 2127 (R 1303),E P "is_frame" 2135 (R 1308),E P "frame_of" 2141 (R 1313),E P "_is_box" 2155 (R 1320),E P "_gap" 2165 (R 1327),E P "gap_between" 2173 (R 1334),E P "seat_gap" 2182 (R 1341),E P "_width" 2190 (R 1348),E P "cube_of" 2196 (R 1353),E P "cube_box" 2202 (R 1358),E P "_orders" 2210 (R 1363),E P "_signs" 2216 (R 1368),E P "_moved" 2225 (R 1375),E P "_path" 2236 (R 1382),E P "_rises" 2252 (R 1389),E P "whole_ring" 2258 (R 1394),E P "whole_needs" 2269 (R 1401),E P "holds_point" 2279 (R 1408),E P "ring_of" 2285 (R 1413),E P "needs_of" 2291 (R 1418),E P "name_of" 2299 (R 1425),E P "block_named" 2310 (R 1432),E P "points_below" 2316 (R 1437),E P "names_upto" 2322 (R 1442),E P "_c_is_generation" 2330 (R 1449),E P "_c_is_member" 2336 (R 1454),E P "_c_root_holds" 2342 (R 1459),E P "_c_come_of_one" 2348 (R 1464),E P "read_region" 2361 (R 1471),E P "region_line" 2368 (R 1478),E P "_c_read_region" 2379 (R 1485),E P "_c_read_region_atom" 2391 (R 1492),E P "_c_region_words" 2398 (R 1499),E P "_c_region_atom_words" 2404 (R 1504),E P "QUANTITY_WORDS" 2416 (R 1505),E P "read_sum" 2427 (R 1512),E P "sum_line" 2434 (R 1519),E P "read_test" 2446 (R 1526),E P "test_line" 2453 (R 1533),E P "_c_read_sum" 2464 (R 1540),E P "_c_read_part" 2475 (R 1547),E P "_c_read_quantity" 2485 (R 1554),E P "_c_read_test" 2498 (R 1561),E P "_c_read_test_atom" 2511 (R 1568),E P "_c_read_blocks" 2519 (R 1575),E P "_c_sum_words" 2530 (R 1582),E P "_c_part_words" 2539 (R 1589),E P "_c_test_words" 2546 (R 1596),E P "_c_test_atom_words" 2552 (R 1601),E P "PlanLines" 2633 (R 1651),E P "read_plan" 2653 (R 1662),E P "plan_text" 2659 (R 1667),E P "DIGITS" 2663 (S "0123456789" 2662),E P "_shown" 2672 (R 1674),E P "quotient_line" 2679 (R 1681),E P "point_line" 2685 (R 1686),E P "place_line" 2691 (R 1691),E P "_passed" 2700 (R 1698),E P "_first_figure" 2710 (R 1705),E P "_behind_figures" 2718 (R 1712),E P "_behind_integer" 2727 (R 1719),E P "_quotient_at" 2739 (R 1726),E P "_look_text" 2746 (R 1733),E P "_ended" 2754 (R 1740),E P "read_quotient" 2763 (R 1747),E P "read_point" 2775 (R 1754),E P "read_place" 2781 (R 1759),E P "_law_tape" 2795 (R 1766),E P "_law_draw" 2804 (R 1773),E P "_law_same" 2813 (R 1780),E P "_law_place" 2824 (R 1787),E P "_law_first" 2833 (R 1794),E P "_law_second" 2844 (R 1801),E P "_law_third" 2858 (R 1808),E P "_law_fourth" 2868 (R 1815),E P "_law_empty" 2875 (R 1822),E P "_law_fifth" 2888 (R 1829),E P "_law_sixth" 2903 (R 1836),E P "_law_seventh" 2917 (R 1843),E P "_law_tables" 2925 (R 1850),E P "_law_told" 2933 (R 1857),E P "law" 2946 (R 1864)]) 270)),
  (40, fi [(I 3),(I 0),(R 48),(I 5),(I 0),(R 61),(I 7),(I 0),(R 73),(I 9),(I 0),(R 85),(I 14),(I 0),(R 104),(I 18),(I 0),(R 123),(I 20),(I 0),(R 135),(I 26),(I 0),(R 154),(I 28),(I 0),(R 161),(I 30),(I 0),(R 168),(I 37),(I 0),(R 175),(I 42),(I 0),(R 182),(I 49),(I 0),(R 189),(I 51),(I 0),(R 196),(I 59),(I 0),(R 203),(I 66),(I 0),(R 210),(I 74),(I 0),(R 217),(I 80),(I 0),(R 222),(I 82),(I 0),(R 227),(I 84),(I 0),(R 234),(I 88),(I 0),(R 241),(I 93),(I 0),(R 246),(I 95),(I 0),(R 253),(I 97),(I 0),(R 258),(I 102),(I 0),(R 265),(I 126),(I 0),(R 272),(I 129),(I 0),(R 279),(I 133),(I 0),(R 286),(I 149),(I 0),(R 291),(I 152),(I 0),(R 296),(I 157),(I 0),(R 303),(I 160),(I 0),(R 310),(I 163),(I 0),(R 317),(I 168),(I 0),(R 322),(I 170),(I 0),(R 329),(I 173),(I 0),(R 336),(I 176),(I 0),(R 343),(I 179),(I 0),(R 350),(I 188),(I 0),(R 357),(I 197),(I 0),(R 364),(I 209),(I 0),(R 369),(I 219),(I 0),(R 376),(I 221),(I 0),(R 381),(I 232),(I 0),(R 386),(I 247),(I 0),(R 393),(I 252),(I 0),(R 400),(I 257),(I 0),(R 407),(I 263),(I 0),(R 414),(I 266),(I 0),(R 421),(I 269),(I 0),(R 428),(I 272),(I 0),(R 435),(I 277),(I 0),(R 442),(I 281),(I 0),(R 447),(I 283),(I 0),(R 452),(I 292),(I 0),(R 459),(I 298),(I 0),(R 466),(I 308),(I 0),(R 473),(I 313),(I 0),(R 478),(I 319),(I 0),(R 485),(I 323),(I 0),(R 492),(I 327),(I 0),(R 499),(I 336),(I 0),(R 506),(I 338),(I 0),(R 513),(I 341),(I 0),(R 520),(I 345),(I 0),(R 525),(I 349),(I 0),(R 530),(I 369),(I 0),(R 535),(I 377),(I 0),(R 540),(I 379),(I 0),(R 545),(I 386),(I 0),(R 550),(I 393),(I 0),(R 555),(I 399),(I 0),(R 562),(I 405),(I 0),(R 567),(I 407),(I 0),(R 574),(I 412),(I 0),(R 581),(I 427),(I 0),(R 590),(I 434),(I 0),(R 597),(I 446),(I 0),(R 604),(I 455),(I 0),(R 611),(I 460),(I 0),(R 618),(I 464),(I 0),(R 623),(I 466),(I 0),(R 630),(I 470),(I 0),(R 637),(I 473),(I 0),(R 644),(I 563),(I 0),(R 760),(I 568),(I 0),(R 767),(I 573),(I 0),(R 774),(I 581),(I 0),(R 781),(I 590),(I 0),(R 788),(I 594),(I 0),(R 793),(I 599),(I 0),(R 802),(I 603),(I 0),(R 809),(I 607),(I 0),(R 816),(I 611),(I 0),(R 823),(I 617),(I 0),(R 828),(I 633),(I 0),(R 835),(I 640),(I 0),(R 840),(I 645),(I 0),(R 845),(I 647),(I 0),(R 850),(I 652),(I 0),(R 855),(I 657),(I 0),(R 862),(I 659),(I 0),(R 869),(I 661),(I 0),(R 876),(I 663),(I 0),(R 883),(I 665),(I 0),(R 888),(I 682),(I 0),(R 893),(I 686),(I 0),(R 900),(I 695),(I 0),(R 905),(I 716),(I 0),(R 912),(I 725),(I 0),(R 917),(I 732),(I 0),(R 924),(I 742),(I 0),(R 929),(I 761),(I 0),(R 936),(I 764),(I 0),(R 943),(I 773),(I 0),(R 950),(I 777),(I 0),(R 957),(I 786),(I 0),(R 964),(I 791),(I 0),(R 971),(I 811),(I 0),(R 976),(I 824),(I 0),(R 983),(I 833),(I 0),(R 990),(I 837),(I 0),(R 995),(I 842),(I 0),(R 1002),(I 848),(I 0),(R 1009),(I 852),(I 0),(R 1016),(I 866),(I 0),(R 1023),(I 877),(I 0),(R 1030),(I 880),(I 0),(R 1035),(I 887),(I 0),(R 1040),(I 899),(I 0),(R 1047),(I 902),(I 0),(R 1052),(I 908),(I 0),(R 1057),(I 911),(I 0),(R 1062),(I 920),(I 0),(R 1069),(I 923),(I 0),(R 1076),(I 930),(I 0),(R 1081),(I 937),(I 0),(R 1086),(I 949),(I 0),(R 1091),(I 958),(I 0),(R 1096),(I 965),(I 0),(R 1101),(I 987),(I 0),(R 1108),(I 991),(I 0),(R 1115),(I 994),(I 0),(R 1122),(I 997),(I 0),(R 1129),(I 1000),(I 0),(R 1136),(I 1004),(I 0),(R 1141),(I 1009),(I 0),(R 1148),(I 1016),(I 0),(R 1153),(I 1024),(I 0),(R 1160),(I 1026),(I 0),(R 1165),(I 1032),(I 0),(R 1172),(I 1039),(I 0),(R 1179),(I 1041),(I 0),(R 1186),(I 1044),(I 0),(R 1193),(I 1047),(I 0),(R 1198),(I 1057),(I 0),(R 1205),(I 1063),(I 0),(R 1212),(I 1068),(I 0),(R 1219),(I 1075),(I 0),(R 1224),(I 1084),(I 0),(R 1229),(I 1089),(I 0),(R 1234),(I 1094),(I 0),(R 1239),(I 1099),(I 0),(R 1244),(I 1105),(I 0),(R 1251),(I 1110),(I 0),(R 1256),(I 1127),(I 0),(R 1261),(I 1147),(I 0),(R 1268),(I 1154),(I 0),(R 1275),(I 1163),(I 0),(R 1280),(I 1168),(I 0),(R 1285),(I 1177),(I 0),(R 1292),(I 1184),(I 0),(R 1297),(I 1199),(I 0),(R 1302),(I 1206),(I 0),(R 1307),(I 1217),(I 0),(R 1312),(I 1226),(I 0),(R 1319),(I 1239),(I 0),(R 1326),(I 1244),(I 0),(R 1333),(I 1250),(I 0),(R 1340),(I 1256),(I 0),(R 1347),(I 1260),(I 0),(R 1352),(I 1266),(I 0),(R 1357),(I 1275),(I 0),(R 1362),(I 1280),(I 0),(R 1367),(I 1285),(I 0),(R 1374),(I 1287),(I 0),(R 1381),(I 1292),(I 0),(R 1388),(I 1303),(I 0),(R 1393),(I 1311),(I 0),(R 1400),(I 1319),(I 0),(R 1407),(I 1323),(I 0),(R 1412),(I 1328),(I 0),(R 1417),(I 1331),(I 0),(R 1424),(I 1335),(I 0),(R 1431),(I 1342),(I 0),(R 1436),(I 1353),(I 0),(R 1441),(I 1362),(I 0),(R 1448),(I 1364),(I 0),(R 1453),(I 1368),(I 0),(R 1458),(I 1377),(I 0),(R 1463),(I 1380),(I 0),(R 1470),(I 1389),(I 0),(R 1477),(I 1393),(I 0),(R 1484),(I 1395),(I 0),(R 1491),(I 1409),(I 0),(R 1498),(I 1411),(I 0),(R 1503),(I 1423),(I 0),(R 1511),(I 1432),(I 0),(R 1518),(I 1436),(I 0),(R 1525),(I 1447),(I 0),(R 1532),(I 1451),(I 0),(R 1539),(I 1458),(I 0),(R 1546),(I 1465),(I 0),(R 1553),(I 1472),(I 0),(R 1560),(I 1474),(I 0),(R 1567),(I 1488),(I 0),(R 1574),(I 1497),(I 0),(R 1581),(I 1506),(I 0),(R 1588),(I 1517),(I 0),(R 1595),(I 1519),(I 0),(R 1600),(I 1529),(I 0),(R 1607),(I 1569),(I 0),(R 1661),(I 1588),(I 0),(R 1666),(I 1601),(I 0),(R 1673),(I 1606),(I 0),(R 1680),(I 1610),(I 0),(R 1685),(I 1615),(I 0),(R 1690),(I 1620),(I 0),(R 1697),(I 1624),(I 0),(R 1704),(I 1629),(I 0),(R 1711),(I 1633),(I 0),(R 1718),(I 1640),(I 0),(R 1725),(I 1652),(I 0),(R 1732),(I 1655),(I 0),(R 1739),(I 1658),(I 0),(R 1746),(I 1663),(I 0),(R 1753),(I 1675),(I 0),(R 1758),(I 1689),(I 0),(R 1765),(I 1699),(I 0),(R 1772),(I 1706),(I 0),(R 1779),(I 1723),(I 0),(R 1786),(I 1728),(I 0),(R 1793),(I 1755),(I 0),(R 1800),(I 1776),(I 0),(R 1807),(I 1804),(I 0),(R 1814),(I 1821),(I 0),(R 1821),(I 1830),(I 0),(R 1828),(I 1854),(I 0),(R 1835),(I 1881),(I 0),(R 1842),(I 1894),(I 0),(R 1849),(I 1897),(I 0),(R 1856),(I 1902),(I 0),(R 1863)])]

def os23 (P : Params) : List Obj := [
  tu [],
  fi [],
  tu [(S "thing" 2147),(S "lows" 2148),(S "highs" 2149),(S "space" 2150),(S "low" 2151),(S "high" 2152)],
  tu [],
  ob N (.func ((st 208) "_is_box" "_is_box" 0 [] N N N N none N N 0)),
  co [(S "_is_box" 2144),(S "_is_box" 2145),(S "/claim/cut.py" 2146),(I 1226),(I 1),(I 0),(I 0),(I 3),(R 1314),(.bool true),(I 370),(R 1315),N,(R 1316),(R 1317),(R 1318),(I 2153),(I 1226),(S "/claim/cut.py" 2154)],
  ob (T "function") (.func ((st 208) "_is_box" "_is_box" 3 [] N N N (S "wholefaces.gaps" 2142) none (R 1319) N 0)),
  tu [],
  fi [],
  tu [(S "one" 2159),(S "other" 2160),(S "gap" 2161),(S "at" 2162)],
  tu [],
  ob N (.func ((st 209) "_gap" "_gap" 0 [] N N N N none N N 0)),
  co [(S "_gap" 2156),(S "_gap" 2157),(S "/claim/cut.py" 2158),(I 1239),(I 2),(I 0),(I 0),(I 3),(R 1321),(.bool true),(I 370),(R 1322),N,(R 1323),(R 1324),(R 1325),(I 2163),(I 1239),(S "/claim/cut.py" 2164)],
  ob (T "function") (.func ((st 209) "_gap" "_gap" 3 [] N N N (S "wholefaces.gaps" 2142) none (R 1326) N 0)),
  tu [],
  fi [],
  tu [(S "one" 2169),(S "other" 2170)],
  tu [],
  ob N (.func ((st 210) "gap_between" "gap_between" 0 [] N N N N none N N 0)),
  co [(S "gap_between" 2166),(S "gap_between" 2167),(S "/claim/cut.py" 2168),(I 1244),(I 2),(I 0),(I 0),(I 3),(R 1328),(.bool true),(I 370),(R 1329),N,(R 1330),(R 1331),(R 1332),(I 2171),(I 1244),(S "/claim/cut.py" 2172)],
  ob (T "function") (.func ((st 210) "gap_between" "gap_between" 3 [] N N N (S "wholefaces.gaps" 2142) none (R 1333) N 0)),
  tu [],
  fi [],
  tu [(S "space" 2177),(S "point" 2178),(S "other" 2179)],
  tu [],
  ob N (.func ((st 211) "seat_gap" "seat_gap" 0 [] N N N N none N N 0)),
  co [(S "seat_gap" 2174),(S "seat_gap" 2175),(S "/claim/cut.py" 2176),(I 1250),(I 3),(I 0),(I 0),(I 3),(R 1335),(.bool true),(I 370),(R 1336),N,(R 1337),(R 1338),(R 1339),(I 2180),(I 1250),(S "/claim/cut.py" 2181)],
  ob (T "function") (.func ((st 211) "seat_gap" "seat_gap" 3 [] N N N (S "wholefaces.gaps" 2142) none (R 1340) N 0)),
  tu [],
  fi [],
  tu [(S "space" 2186),(S "level" 2187)],
  tu [],
  ob N (.func ((st 212) "_width" "_width" 0 [] N N N N none N N 0)),
  co [(S "_width" 2183),(S "_width" 2184),(S "/claim/cut.py" 2185),(I 1256),(I 2),(I 0),(I 0),(I 3),(R 1342),(.bool true),(I 370),(R 1343),N,(R 1344),(R 1345),(R 1346),(I 2188),(I 1256),(S "/claim/cut.py" 2189)],
  ob (T "function") (.func ((st 212) "_width" "_width" 3 [] N N N (S "wholefaces.gaps" 2142) none (R 1347) N 0)),
  tu [],
  fi [],
  ob N (.func ((st 213) "cube_of" "cube_of" 0 [] N N N N none N N 0)),
  co [(S "cube_of" 2191),(S "cube_of" 2192),(S "/claim/cut.py" 2193),(I 1260),(I 3),(I 0),(I 0),(I 3),(R 1349),(.bool true),(I 370),(R 1350),N,N,N,(R 1351),(I 2194),(I 1260),(S "/claim/cut.py" 2195)],
  ob (T "function") (.func ((st 213) "cube_of" "cube_of" 3 [] N N N (S "wholefaces.gaps" 2142) none (R 1352) N 0)),
  tu [],
  fi [],
  ob N (.func ((st 214) "cube_box" "cube_box" 0 [] N N N N none N N 0)),
  co [(S "cube_box" 2197),(S "cube_box" 2198),(S "/claim/cut.py" 2199),(I 1266),(I 3),(I 0),(I 0),(I 3),(R 1354),(.bool true),(I 370),(R 1355),N,N,N,(R 1356),(I 2200),(I 1266),(S "/claim/cut.py" 2201)],
  ob (T "function") (.func ((st 214) "cube_box" "cube_box" 3 [] N N N (S "wholefaces.gaps" 2142) none (R 1357) N 0)),
  tu [],
  fi [],
  ob N (.func ((st 216) "_orders" "_orders" 0 [] N N N N none N N 0)),
  co [(S "_orders" 2205),(S "_orders" 2206),(S "/claim/cut.py" 2207),(I 1275),(I 1),(I 0),(I 0),(I 3),(R 1359),(.bool true),(I 370),(R 1360),N,N,N,(R 1361),(I 2208),(I 1275),(S "/claim/cut.py" 2209)],
  ob (T "function") (.func ((st 216) "_orders" "_orders" 3 [] N N N (S "wholefaces.rings" 2203) none (R 1362) N 0)),
  tu [],
  fi [],
  ob N (.func ((st 217) "_signs" "_signs" 0 [] N N N N none N N 0)),
  co [(S "_signs" 2211),(S "_signs" 2212),(S "/claim/cut.py" 2213),(I 1280),(I 1),(I 0),(I 0),(I 3),(R 1364),(.bool true),(I 370),(R 1365),N,N,N,(R 1366),(I 2214),(I 1280),(S "/claim/cut.py" 2215)],
  ob (T "function") (.func ((st 217) "_signs" "_signs" 3 [] N N N (S "wholefaces.rings" 2203) none (R 1367) N 0)),
  tu [],
  fi [],
  tu [(S "point" 2220),(S "at" 2221),(S "number" 2222)],
  tu [],
  ob N (.func ((st 218) "_moved" "_moved" 0 [] N N N N none N N 0))]

def os24 (P : Params) : List Obj := [
  co [(S "_moved" 2217),(S "_moved" 2218),(S "/claim/cut.py" 2219),(I 1285),(I 3),(I 0),(I 0),(I 3),(R 1369),(.bool true),(I 370),(R 1370),N,(R 1371),(R 1372),(R 1373),(I 2223),(I 1285),(S "/claim/cut.py" 2224)],
  ob (T "function") (.func ((st 218) "_moved" "_moved" 3 [] N N N (S "wholefaces.rings" 2203) none (R 1374) N 0)),
  tu [],
  fi [],
  tu [(S "first" 2229),(S "last" 2230),(S "order" 2231),(S "path" 2232),(S "at" 2233)],
  tu [],
  ob N (.func ((st 219) "_path" "_path" 0 [] N N N N none N N 0)),
  co [(S "_path" 2226),(S "_path" 2227),(S "/claim/cut.py" 2228),(I 1287),(I 3),(I 0),(I 0),(I 3),(R 1376),(.bool true),(I 370),(R 1377),N,(R 1378),(R 1379),(R 1380),(I 2234),(I 1287),(S "/claim/cut.py" 2235)],
  ob (T "function") (.func ((st 219) "_path" "_path" 3 [] N N N (S "wholefaces.rings" 2203) none (R 1381) N 0)),
  tu [],
  fi [],
  tu [(S "point" 2240),(S "grain" 2241),(S "others" 2242),(S "rows" 2243),(S "order" 2244),(S "signs" 2245),(S "row" 2246),(S "corner" 2247),(S "at" 2248),(S "sign" 2249)],
  tu [],
  ob N (.func ((st 220) "_rises" "_rises" 0 [] N N N N none N N 0)),
  co [(S "_rises" 2237),(S "_rises" 2238),(S "/claim/cut.py" 2239),(I 1292),(I 3),(I 0),(I 0),(I 3),(R 1383),(.bool true),(I 370),(R 1384),N,(R 1385),(R 1386),(R 1387),(I 2250),(I 1292),(S "/claim/cut.py" 2251)],
  ob (T "function") (.func ((st 220) "_rises" "_rises" 3 [] N N N (S "wholefaces.rings" 2203) none (R 1388) N 0)),
  tu [],
  fi [],
  ob N (.func ((st 221) "whole_ring" "whole_ring" 0 [] N N N N none N N 0)),
  co [(S "whole_ring" 2253),(S "whole_ring" 2254),(S "/claim/cut.py" 2255),(I 1303),(I 2),(I 0),(I 0),(I 3),(R 1390),(.bool true),(I 370),(R 1391),N,N,N,(R 1392),(I 2256),(I 1303),(S "/claim/cut.py" 2257)],
  ob (T "function") (.func ((st 221) "whole_ring" "whole_ring" 3 [] N N N (S "wholefaces.rings" 2203) none (R 1393) N 0)),
  tu [],
  fi [],
  tu [(S "space" 2262),(S "point" 2263),(S "needs" 2264),(S "block" 2265),(S "corner" 2266)],
  tu [],
  ob N (.func ((st 222) "whole_needs" "whole_needs" 0 [] N N N N none N N 0)),
  co [(S "whole_needs" 2259),(S "whole_needs" 2260),(S "/claim/cut.py" 2261),(I 1311),(I 2),(I 0),(I 0),(I 3),(R 1395),(.bool true),(I 370),(R 1396),N,(R 1397),(R 1398),(R 1399),(I 2267),(I 1311),(S "/claim/cut.py" 2268)],
  ob (T "function") (.func ((st 222) "whole_needs" "whole_needs" 3 [] N N N (S "wholefaces.rings" 2203) none (R 1400) N 0)),
  tu [],
  fi [],
  tu [(S "solid" 2275),(S "point" 2276)],
  tu [],
  ob N (.func ((st 224) "holds_point" "holds_point" 0 [] N N N N none N N 0)),
  co [(S "holds_point" 2272),(S "holds_point" 2273),(S "/claim/cut.py" 2274),(I 1319),(I 2),(I 0),(I 0),(I 3),(R 1402),(.bool true),(I 370),(R 1403),N,(R 1404),(R 1405),(R 1406),(I 2277),(I 1319),(S "/claim/cut.py" 2278)],
  ob (T "function") (.func ((st 224) "holds_point" "holds_point" 3 [] N N N (S "wholefaces.members" 2270) none (R 1407) N 0)),
  tu [],
  fi [],
  ob N (.func ((st 225) "ring_of" "ring_of" 0 [] N N N N none N N 0)),
  co [(S "ring_of" 2280),(S "ring_of" 2281),(S "/claim/cut.py" 2282),(I 1323),(I 2),(I 0),(I 0),(I 3),(R 1409),(.bool true),(I 370),(R 1410),N,N,N,(R 1411),(I 2283),(I 1323),(S "/claim/cut.py" 2284)],
  ob (T "function") (.func ((st 225) "ring_of" "ring_of" 3 [] N N N (S "wholefaces.members" 2270) none (R 1412) N 0)),
  tu [],
  fi [],
  ob N (.func ((st 226) "needs_of" "needs_of" 0 [] N N N N none N N 0)),
  co [(S "needs_of" 2286),(S "needs_of" 2287),(S "/claim/cut.py" 2288),(I 1328),(I 2),(I 0),(I 0),(I 3),(R 1414),(.bool true),(I 370),(R 1415),N,N,N,(R 1416),(I 2289),(I 1328),(S "/claim/cut.py" 2290)],
  ob (T "function") (.func ((st 226) "needs_of" "needs_of" 3 [] N N N (S "wholefaces.members" 2270) none (R 1417) N 0)),
  tu [],
  fi [],
  tu [(S "solid" 2295),(S "block" 2296)],
  tu [],
  ob N (.func ((st 227) "name_of" "name_of" 0 [] N N N N none N N 0)),
  co [(S "name_of" 2292),(S "name_of" 2293),(S "/claim/cut.py" 2294),(I 1331),(I 2),(I 0),(I 0),(I 3),(R 1419),(.bool true),(I 370),(R 1420),N,(R 1421),(R 1422),(R 1423),(I 2297),(I 1331),(S "/claim/cut.py" 2298)],
  ob (T "function") (.func ((st 227) "name_of" "name_of" 3 [] N N N (S "wholefaces.members" 2270) none (R 1424) N 0)),
  tu [],
  fi [],
  tu [(S "solid" 2303),(S "name" 2304),(S "dims" 2305),(S "rounds" 2306),(S "roots" 2307)],
  tu [],
  ob N (.func ((st 228) "block_named" "block_named" 0 [] N N N N none N N 0)),
  co [(S "block_named" 2300),(S "block_named" 2301),(S "/claim/cut.py" 2302),(I 1335),(I 2),(I 0),(I 0),(I 3),(R 1426),(.bool true),(I 370),(R 1427),N,(R 1428),(R 1429),(R 1430),(I 2308),(I 1335),(S "/claim/cut.py" 2309)],
  ob (T "function") (.func ((st 228) "block_named" "block_named" 3 [] N N N (S "wholefaces.members" 2270) none (R 1431) N 0)),
  tu []]

def os25 (P : Params) : List Obj := [
  fi [],
  ob N (.func ((st 229) "points_below" "points_below" 0 [] N N N N none N N 0)),
  co [(S "points_below" 2311),(S "points_below" 2312),(S "/claim/cut.py" 2313),(I 1342),(I 2),(I 0),(I 0),(I 3),(R 1433),(.bool true),(I 370),(R 1434),N,N,N,(R 1435),(I 2314),(I 1342),(S "/claim/cut.py" 2315)],
  ob (T "function") (.func ((st 229) "points_below" "points_below" 3 [] N N N (S "wholefaces.members" 2270) none (R 1436) N 0)),
  tu [],
  fi [],
  ob N (.func ((st 230) "names_upto" "names_upto" 0 [] N N N N none N N 0)),
  co [(S "names_upto" 2317),(S "names_upto" 2318),(S "/claim/cut.py" 2319),(I 1353),(I 2),(I 0),(I 0),(I 3),(R 1438),(.bool true),(I 370),(R 1439),N,N,N,(R 1440),(I 2320),(I 1353),(S "/claim/cut.py" 2321)],
  ob (T "function") (.func ((st 230) "names_upto" "names_upto" 3 [] N N N (S "wholefaces.members" 2270) none (R 1441) N 0)),
  tu [],
  fi [],
  tu [(S "solid" 2326),(S "thing" 2327)],
  tu [],
  ob N (.func ((st 231) "_c_is_generation" "_c_is_generation" 0 [] N N N N none N N 0)),
  co [(S "_c_is_generation" 2323),(S "_c_is_generation" 2324),(S "/claim/cut.py" 2325),(I 1362),(I 2),(I 0),(I 0),(I 3),(R 1443),(.bool true),(I 370),(R 1444),N,(R 1445),(R 1446),(R 1447),(I 2328),(I 1362),(S "/claim/cut.py" 2329)],
  ob (T "function") (.func ((st 231) "_c_is_generation" "_c_is_generation" 3 [] N N N (S "wholefaces.members" 2270) none (R 1448) N 0)),
  tu [],
  fi [],
  ob N (.func ((st 232) "_c_is_member" "_c_is_member" 0 [] N N N N none N N 0)),
  co [(S "_c_is_member" 2331),(S "_c_is_member" 2332),(S "/claim/cut.py" 2333),(I 1364),(I 2),(I 0),(I 0),(I 3),(R 1450),(.bool true),(I 370),(R 1451),N,N,N,(R 1452),(I 2334),(I 1364),(S "/claim/cut.py" 2335)],
  ob (T "function") (.func ((st 232) "_c_is_member" "_c_is_member" 3 [] N N N (S "wholefaces.members" 2270) none (R 1453) N 0)),
  tu [],
  fi [],
  ob N (.func ((st 233) "_c_root_holds" "_c_root_holds" 0 [] N N N N none N N 0)),
  co [(S "_c_root_holds" 2337),(S "_c_root_holds" 2338),(S "/claim/cut.py" 2339),(I 1368),(I 2),(I 0),(I 0),(I 3),(R 1455),(.bool true),(I 370),(R 1456),N,N,N,(R 1457),(I 2340),(I 1368),(S "/claim/cut.py" 2341)],
  ob (T "function") (.func ((st 233) "_c_root_holds" "_c_root_holds" 3 [] N N N (S "wholefaces.members" 2270) none (R 1458) N 0)),
  tu [],
  fi [],
  ob N (.func ((st 234) "_c_come_of_one" "_c_come_of_one" 0 [] N N N N none N N 0)),
  co [(S "_c_come_of_one" 2343),(S "_c_come_of_one" 2344),(S "/claim/cut.py" 2345),(I 1377),(I 2),(I 0),(I 0),(I 3),(R 1460),(.bool true),(I 370),(R 1461),N,N,N,(R 1462),(I 2346),(I 1377),(S "/claim/cut.py" 2347)],
  ob (T "function") (.func ((st 234) "_c_come_of_one" "_c_come_of_one" 3 [] N N N (S "wholefaces.members" 2270) none (R 1463) N 0)),
  tu [],
  fi [],
  tu [(S "space" 2354),(S "names" 2355),(S "text" 2356),(S "reader" 2357),(S "region" 2358)],
  tu [],
  ob N (.func ((st 236) "read_region" "read_region" 0 [] N N N N none N N 0)),
  co [(S "read_region" 2351),(S "read_region" 2352),(S "/claim/cut.py" 2353),(I 1380),(I 3),(I 0),(I 0),(I 3),(R 1465),(.bool true),(I 370),(R 1466),N,(R 1467),(R 1468),(R 1469),(I 2359),(I 1380),(S "/claim/cut.py" 2360)],
  ob (T "function") (.func ((st 236) "read_region" "read_region" 3 [] N N N (S "wholefaces.regiontexts" 2349) none (R 1470) N 0)),
  tu [],
  fi [],
  tu [(S "region" 2365)],
  tu [],
  ob N (.func ((st 237) "region_line" "region_line" 0 [] N N N N none N N 0)),
  co [(S "region_line" 2362),(S "region_line" 2363),(S "/claim/cut.py" 2364),(I 1389),(I 1),(I 0),(I 0),(I 3),(R 1472),(.bool true),(I 370),(R 1473),N,(R 1474),(R 1475),(R 1476),(I 2366),(I 1389),(S "/claim/cut.py" 2367)],
  ob (T "function") (.func ((st 237) "region_line" "region_line" 3 [] N N N (S "wholefaces.regiontexts" 2349) none (R 1477) N 0)),
  tu [],
  fi [],
  tu [(S "reader" 2372),(S "dims" 2373),(S "names" 2374)],
  tu [(S "dims" 2375),(S "names" 2376)],
  ob N (.func ((st 238) "_c_read_region" "_c_read_region" 0 [] N N N N none N N 0)),
  co [(S "_c_read_region" 2369),(S "_c_read_region" 2370),(S "/claim/cut.py" 2371),(I 1393),(I 3),(I 0),(I 0),(I 3),(R 1479),(.bool true),(I 370),(R 1480),N,(R 1481),(R 1482),(R 1483),(I 2377),(I 1393),(S "/claim/cut.py" 2378)],
  ob (T "function") (.func ((st 238) "_c_read_region" "_c_read_region" 3 [] N N N (S "wholefaces.regiontexts" 2349) none (R 1484) N 0)),
  tu [],
  fi [],
  tu [(S "reader" 2383),(S "dims" 2384),(S "names" 2385),(S "lows" 2386),(S "terms" 2387),(S "sign" 2388)],
  tu [],
  ob N (.func ((st 239) "_c_read_region_atom" "_c_read_region_atom" 0 [] N N N N none N N 0)),
  co [(S "_c_read_region_atom" 2380),(S "_c_read_region_atom" 2381),(S "/claim/cut.py" 2382),(I 1395),(I 3),(I 0),(I 0),(I 3),(R 1486),(.bool true),(I 370),(R 1487),N,(R 1488),(R 1489),(R 1490),(I 2389),(I 1395),(S "/claim/cut.py" 2390)],
  ob (T "function") (.func ((st 239) "_c_read_region_atom" "_c_read_region_atom" 3 [] N N N (S "wholefaces.regiontexts" 2349) none (R 1491) N 0)),
  tu []]

def os26 (P : Params) : List Obj := [
  fi [],
  tu [(S "region" 2395)],
  tu [],
  ob N (.func ((st 240) "_c_region_words" "_c_region_words" 0 [] N N N N none N N 0)),
  co [(S "_c_region_words" 2392),(S "_c_region_words" 2393),(S "/claim/cut.py" 2394),(I 1409),(I 1),(I 0),(I 0),(I 3),(R 1493),(.bool true),(I 370),(R 1494),N,(R 1495),(R 1496),(R 1497),(I 2396),(I 1409),(S "/claim/cut.py" 2397)],
  ob (T "function") (.func ((st 240) "_c_region_words" "_c_region_words" 3 [] N N N (S "wholefaces.regiontexts" 2349) none (R 1498) N 0)),
  tu [],
  fi [],
  ob N (.func ((st 241) "_c_region_atom_words" "_c_region_atom_words" 0 [] N N N N none N N 0)),
  co [(S "_c_region_atom_words" 2399),(S "_c_region_atom_words" 2400),(S "/claim/cut.py" 2401),(I 1411),(I 1),(I 0),(I 0),(I 3),(R 1500),(.bool true),(I 370),(R 1501),N,N,N,(R 1502),(I 2402),(I 1411),(S "/claim/cut.py" 2403)],
  ob (T "function") (.func ((st 241) "_c_region_atom_words" "_c_region_atom_words" 3 [] N N N (S "wholefaces.regiontexts" 2349) none (R 1503) N 0)),
  tu [(S "generation" 2407),(S "level" 2408),(S "stage" 2409),(S "size" 2410),(S "low" 2411),(S "high" 2412),(S "least" 2413),(S "most" 2414),(S "error" 2415)],
  tu [],
  fi [],
  tu [(S "space" 2420),(S "fields" 2421),(S "text" 2422),(S "reader" 2423),(S "parts" 2424)],
  tu [],
  ob N (.func ((st 244) "read_sum" "read_sum" 0 [] N N N N none N N 0)),
  co [(S "read_sum" 2417),(S "read_sum" 2418),(S "/claim/cut.py" 2419),(I 1423),(I 3),(I 0),(I 0),(I 3),(R 1506),(.bool true),(I 370),(R 1507),N,(R 1508),(R 1509),(R 1510),(I 2425),(I 1423),(S "/claim/cut.py" 2426)],
  ob (T "function") (.func ((st 244) "read_sum" "read_sum" 3 [] N N N (S "wholefaces.testtexts" 2405) none (R 1511) N 0)),
  tu [],
  fi [],
  tu [(S "parts" 2431)],
  tu [],
  ob N (.func ((st 245) "sum_line" "sum_line" 0 [] N N N N none N N 0)),
  co [(S "sum_line" 2428),(S "sum_line" 2429),(S "/claim/cut.py" 2430),(I 1432),(I 1),(I 0),(I 0),(I 3),(R 1513),(.bool true),(I 370),(R 1514),N,(R 1515),(R 1516),(R 1517),(I 2432),(I 1432),(S "/claim/cut.py" 2433)],
  ob (T "function") (.func ((st 245) "sum_line" "sum_line" 3 [] N N N (S "wholefaces.testtexts" 2405) none (R 1518) N 0)),
  tu [],
  fi [],
  tu [(S "space" 2438),(S "regions" 2439),(S "fields" 2440),(S "text" 2441),(S "reader" 2442),(S "test" 2443)],
  tu [],
  ob N (.func ((st 246) "read_test" "read_test" 0 [] N N N N none N N 0)),
  co [(S "read_test" 2435),(S "read_test" 2436),(S "/claim/cut.py" 2437),(I 1436),(I 4),(I 0),(I 0),(I 3),(R 1520),(.bool true),(I 370),(R 1521),N,(R 1522),(R 1523),(R 1524),(I 2444),(I 1436),(S "/claim/cut.py" 2445)],
  ob (T "function") (.func ((st 246) "read_test" "read_test" 3 [] N N N (S "wholefaces.testtexts" 2405) none (R 1525) N 0)),
  tu [],
  fi [],
  tu [(S "test" 2450)],
  tu [],
  ob N (.func ((st 247) "test_line" "test_line" 0 [] N N N N none N N 0)),
  co [(S "test_line" 2447),(S "test_line" 2448),(S "/claim/cut.py" 2449),(I 1447),(I 1),(I 0),(I 0),(I 3),(R 1527),(.bool true),(I 370),(R 1528),N,(R 1529),(R 1530),(R 1531),(I 2451),(I 1447),(S "/claim/cut.py" 2452)],
  ob (T "function") (.func ((st 247) "test_line" "test_line" 3 [] N N N (S "wholefaces.testtexts" 2405) none (R 1532) N 0)),
  tu [],
  fi [],
  tu [(S "reader" 2457),(S "dims" 2458),(S "fields" 2459),(S "sign" 2460),(S "parts" 2461)],
  tu [],
  ob N (.func ((st 248) "_c_read_sum" "_c_read_sum" 0 [] N N N N none N N 0)),
  co [(S "_c_read_sum" 2454),(S "_c_read_sum" 2455),(S "/claim/cut.py" 2456),(I 1451),(I 3),(I 0),(I 0),(I 3),(R 1534),(.bool true),(I 370),(R 1535),N,(R 1536),(R 1537),(R 1538),(I 2462),(I 1451),(S "/claim/cut.py" 2463)],
  ob (T "function") (.func ((st 248) "_c_read_sum" "_c_read_sum" 3 [] N N N (S "wholefaces.testtexts" 2405) none (R 1539) N 0)),
  tu [],
  fi [],
  tu [(S "reader" 2468),(S "sign" 2469),(S "dims" 2470),(S "fields" 2471),(S "integer" 2472)],
  tu [],
  ob N (.func ((st 249) "_c_read_part" "_c_read_part" 0 [] N N N N none N N 0)),
  co [(S "_c_read_part" 2465),(S "_c_read_part" 2466),(S "/claim/cut.py" 2467),(I 1458),(I 4),(I 0),(I 0),(I 3),(R 1541),(.bool true),(I 370),(R 1542),N,(R 1543),(R 1544),(R 1545),(I 2473),(I 1458),(S "/claim/cut.py" 2474)],
  ob (T "function") (.func ((st 249) "_c_read_part" "_c_read_part" 3 [] N N N (S "wholefaces.testtexts" 2405) none (R 1546) N 0)),
  tu [],
  fi [],
  tu [(S "reader" 2479),(S "dims" 2480),(S "fields" 2481),(S "word" 2482)],
  tu [],
  ob N (.func ((st 250) "_c_read_quantity" "_c_read_quantity" 0 [] N N N N none N N 0)),
  co [(S "_c_read_quantity" 2476),(S "_c_read_quantity" 2477),(S "/claim/cut.py" 2478),(I 1465),(I 3),(I 0),(I 0),(I 3),(R 1548),(.bool true),(I 370),(R 1549),N,(R 1550),(R 1551),(R 1552),(I 2483),(I 1465),(S "/claim/cut.py" 2484)]]

def os27 (P : Params) : List Obj := [
  ob (T "function") (.func ((st 250) "_c_read_quantity" "_c_read_quantity" 3 [] N N N (S "wholefaces.testtexts" 2405) none (R 1553) N 0)),
  tu [],
  fi [],
  tu [(S "reader" 2489),(S "dims" 2490),(S "regions" 2491),(S "fields" 2492)],
  tu [(S "dims" 2493),(S "regions" 2494),(S "fields" 2495)],
  ob N (.func ((st 251) "_c_read_test" "_c_read_test" 0 [] N N N N none N N 0)),
  co [(S "_c_read_test" 2486),(S "_c_read_test" 2487),(S "/claim/cut.py" 2488),(I 1472),(I 4),(I 0),(I 0),(I 3),(R 1555),(.bool true),(I 370),(R 1556),N,(R 1557),(R 1558),(R 1559),(I 2496),(I 1472),(S "/claim/cut.py" 2497)],
  ob (T "function") (.func ((st 251) "_c_read_test" "_c_read_test" 3 [] N N N (S "wholefaces.testtexts" 2405) none (R 1560) N 0)),
  tu [],
  fi [],
  tu [(S "reader" 2502),(S "dims" 2503),(S "regions" 2504),(S "fields" 2505),(S "word" 2506),(S "one" 2507),(S "mark" 2508)],
  tu [],
  ob N (.func ((st 252) "_c_read_test_atom" "_c_read_test_atom" 0 [] N N N N none N N 0)),
  co [(S "_c_read_test_atom" 2499),(S "_c_read_test_atom" 2500),(S "/claim/cut.py" 2501),(I 1474),(I 4),(I 0),(I 0),(I 3),(R 1562),(.bool true),(I 370),(R 1563),N,(R 1564),(R 1565),(R 1566),(I 2509),(I 1474),(S "/claim/cut.py" 2510)],
  ob (T "function") (.func ((st 252) "_c_read_test_atom" "_c_read_test_atom" 3 [] N N N (S "wholefaces.testtexts" 2405) none (R 1567) N 0)),
  tu [],
  fi [],
  tu [(S "reader" 2515),(S "names" 2516)],
  tu [],
  ob N (.func ((st 253) "_c_read_blocks" "_c_read_blocks" 0 [] N N N N none N N 0)),
  co [(S "_c_read_blocks" 2512),(S "_c_read_blocks" 2513),(S "/claim/cut.py" 2514),(I 1488),(I 1),(I 0),(I 0),(I 3),(R 1569),(.bool true),(I 370),(R 1570),N,(R 1571),(R 1572),(R 1573),(I 2517),(I 1488),(S "/claim/cut.py" 2518)],
  ob (T "function") (.func ((st 253) "_c_read_blocks" "_c_read_blocks" 3 [] N N N (S "wholefaces.testtexts" 2405) none (R 1574) N 0)),
  tu [],
  fi [],
  tu [(S "parts" 2523),(S "line" 2524),(S "k" 2525),(S "integer" 2526),(S "quantity" 2527)],
  tu [],
  ob N (.func ((st 254) "_c_sum_words" "_c_sum_words" 0 [] N N N N none N N 0)),
  co [(S "_c_sum_words" 2520),(S "_c_sum_words" 2521),(S "/claim/cut.py" 2522),(I 1497),(I 1),(I 0),(I 0),(I 3),(R 1576),(.bool true),(I 370),(R 1577),N,(R 1578),(R 1579),(R 1580),(I 2528),(I 1497),(S "/claim/cut.py" 2529)],
  ob (T "function") (.func ((st 254) "_c_sum_words" "_c_sum_words" 3 [] N N N (S "wholefaces.testtexts" 2405) none (R 1581) N 0)),
  tu [],
  fi [],
  tu [(S "size" 2534),(S "quantity" 2535),(S "words" 2536)],
  tu [],
  ob N (.func ((st 255) "_c_part_words" "_c_part_words" 0 [] N N N N none N N 0)),
  co [(S "_c_part_words" 2531),(S "_c_part_words" 2532),(S "/claim/cut.py" 2533),(I 1506),(I 2),(I 0),(I 0),(I 3),(R 1583),(.bool true),(I 370),(R 1584),N,(R 1585),(R 1586),(R 1587),(I 2537),(I 1506),(S "/claim/cut.py" 2538)],
  ob (T "function") (.func ((st 255) "_c_part_words" "_c_part_words" 3 [] N N N (S "wholefaces.testtexts" 2405) none (R 1588) N 0)),
  tu [],
  fi [],
  tu [(S "test" 2543)],
  tu [],
  ob N (.func ((st 256) "_c_test_words" "_c_test_words" 0 [] N N N N none N N 0)),
  co [(S "_c_test_words" 2540),(S "_c_test_words" 2541),(S "/claim/cut.py" 2542),(I 1517),(I 1),(I 0),(I 0),(I 3),(R 1590),(.bool true),(I 370),(R 1591),N,(R 1592),(R 1593),(R 1594),(I 2544),(I 1517),(S "/claim/cut.py" 2545)],
  ob (T "function") (.func ((st 256) "_c_test_words" "_c_test_words" 3 [] N N N (S "wholefaces.testtexts" 2405) none (R 1595) N 0)),
  tu [],
  fi [],
  ob N (.func ((st 257) "_c_test_atom_words" "_c_test_atom_words" 0 [] N N N N none N N 0)),
  co [(S "_c_test_atom_words" 2547),(S "_c_test_atom_words" 2548),(S "/claim/cut.py" 2549),(I 1519),(I 1),(I 0),(I 0),(I 3),(R 1597),(.bool true),(I 370),(R 1598),N,N,N,(R 1599),(I 2550),(I 1519),(S "/claim/cut.py" 2551)],
  ob (T "function") (.func ((st 257) "_c_test_atom_words" "_c_test_atom_words" 3 [] N N N (S "wholefaces.testtexts" 2405) none (R 1600) N 0)),
  tu [],
  ob (T "builtin_function_or_method") (.fields (L [(B "type.__prepare__"),(T "type")])),
  ob (T "dict") (.dict (L [E P "__module__" 2562 (S "wholefaces.plantexts" 2553),E P "__qualname__" 2564 (S "PlanLines" 2563),E P "__firstlineno__" 2566 (J 1529 2565),E P "__init__" 2572 (R 1613),E P "begins" 2580 (R 1620),E P "line_of" 2589 (R 1627),E P "number_of" 2601 (R 1634),E P "table_of" 2614 (R 1641),E P "finish_lines" 2621 (R 1648),E P "__static_attributes__" 2626 (R 1649)]) 10),
  tu [],
  fi [(I 1531),(I 4),(R 1612),(I 1538),(I 4),(R 1619),(I 1541),(I 4),(R 1626),(I 1549),(I 4),(R 1633),(I 1555),(I 4),(R 1640),(I 1566),(I 4),(R 1647)],
  co [(S "PlanLines" 2557),(S "PlanLines" 2558),(S "/claim/cut.py" 2559),(I 1529),(I 0),(I 0),(I 0),(I 0),(R 1605),(.bool false),(I 370),(R 1606),N,N,N,N,(I 2560),(I 1529),(S "/claim/cut.py" 2561)],
  ⟨(T "frame"), none, .plain, L [(some (R 1607)),(some (R 3)),(some (R 1604)),none,(some (S "wholefaces.plantexts" 2553)),none,(some (R 0))]⟩,
  tu [],
  fi [],
  ob N (.func ((sm 259 0) "__init__" "PlanLines.__init__" 0 [] N N N N none N N 0)),
  co [(S "__init__" 2567),(S "PlanLines.__init__" 2568),(S "/claim/cut.py" 2569),(I 1531),(I 2),(I 0),(I 0),(I 3),(R 1609),(.bool true),(I 370),(R 1610),N,N,N,(R 1611),(I 2570),(I 1531),(S "/claim/cut.py" 2571)],
  ob (T "function") (.func ((sm 259 0) "__init__" "PlanLines.__init__" 3 [] N N N (S "wholefaces.plantexts" 2553) none (R 1612) N 0))]

def os28 (P : Params) : List Obj := [
  tu [],
  fi [],
  tu [(S "self" 2576),(S "word" 2577)],
  tu [],
  ob N (.func ((sm 259 1) "begins" "PlanLines.begins" 0 [] N N N N none N N 0)),
  co [(S "begins" 2573),(S "PlanLines.begins" 2574),(S "/claim/cut.py" 2575),(I 1538),(I 2),(I 0),(I 0),(I 3),(R 1614),(.bool true),(I 370),(R 1615),N,(R 1616),(R 1617),(R 1618),(I 2578),(I 1538),(S "/claim/cut.py" 2579)],
  ob (T "function") (.func ((sm 259 1) "begins" "PlanLines.begins" 3 [] N N N (S "wholefaces.plantexts" 2553) none (R 1619) N 0)),
  tu [],
  fi [],
  tu [(S "self" 2584),(S "word" 2585),(S "reader" 2586)],
  tu [],
  ob N (.func ((sm 259 2) "line_of" "PlanLines.line_of" 0 [] N N N N none N N 0)),
  co [(S "line_of" 2581),(S "PlanLines.line_of" 2582),(S "/claim/cut.py" 2583),(I 1541),(I 2),(I 0),(I 0),(I 3),(R 1621),(.bool true),(I 370),(R 1622),N,(R 1623),(R 1624),(R 1625),(I 2587),(I 1541),(S "/claim/cut.py" 2588)],
  ob (T "function") (.func ((sm 259 2) "line_of" "PlanLines.line_of" 3 [] N N N (S "wholefaces.plantexts" 2553) none (R 1626) N 0)),
  tu [],
  fi [],
  tu [(S "self" 2593),(S "word" 2594),(S "least" 2595),(S "most" 2596),(S "reader" 2597),(S "number" 2598)],
  tu [],
  ob N (.func ((sm 259 3) "number_of" "PlanLines.number_of" 0 [] N N N N none N N 0)),
  co [(S "number_of" 2590),(S "PlanLines.number_of" 2591),(S "/claim/cut.py" 2592),(I 1549),(I 4),(I 0),(I 0),(I 3),(R 1628),(.bool true),(I 370),(R 1629),N,(R 1630),(R 1631),(R 1632),(I 2599),(I 1549),(S "/claim/cut.py" 2600)],
  ob (T "function") (.func ((sm 259 3) "number_of" "PlanLines.number_of" 3 [] N N N (S "wholefaces.plantexts" 2553) none (R 1633) N 0)),
  tu [],
  fi [],
  tu [(S "self" 2605),(S "word" 2606),(S "mark" 2607),(S "told" 2608),(S "rows" 2609),(S "reader" 2610),(S "name" 2611)],
  tu [],
  ob N (.func ((sm 259 4) "table_of" "PlanLines.table_of" 0 [] N N N N none N N 0)),
  co [(S "table_of" 2602),(S "PlanLines.table_of" 2603),(S "/claim/cut.py" 2604),(I 1555),(I 4),(I 0),(I 0),(I 3),(R 1635),(.bool true),(I 370),(R 1636),N,(R 1637),(R 1638),(R 1639),(I 2612),(I 1555),(S "/claim/cut.py" 2613)],
  ob (T "function") (.func ((sm 259 4) "table_of" "PlanLines.table_of" 3 [] N N N (S "wholefaces.plantexts" 2553) none (R 1640) N 0)),
  tu [],
  fi [],
  tu [(S "self" 2618)],
  tu [],
  ob N (.func ((sm 259 5) "finish_lines" "PlanLines.finish_lines" 0 [] N N N N none N N 0)),
  co [(S "finish_lines" 2615),(S "PlanLines.finish_lines" 2616),(S "/claim/cut.py" 2617),(I 1566),(I 1),(I 0),(I 0),(I 3),(R 1642),(.bool true),(I 370),(R 1643),N,(R 1644),(R 1645),(R 1646),(I 2619),(I 1566),(S "/claim/cut.py" 2620)],
  ob (T "function") (.func ((sm 259 5) "finish_lines" "PlanLines.finish_lines" 3 [] N N N (S "wholefaces.plantexts" 2553) none (R 1647) N 0)),
  tu [(S "many" 2622),(S "readers" 2623),(S "spot" 2624),(S "taken" 2625)],
  ob (T "dict") (.dict (L [E P "__module__" 2562 (S "wholefaces.plantexts" 2553),E P "__firstlineno__" 2566 (J 1529 2565),E P "__init__" 2572 (R 1613),E P "begins" 2580 (R 1620),E P "line_of" 2589 (R 1627),E P "number_of" 2601 (R 1634),E P "table_of" 2614 (R 1641),E P "finish_lines" 2621 (R 1648),E P "__static_attributes__" 2626 (R 1649),E P "__dict__" 2628 (R 1652),E P "__weakref__" 2630 (R 1653),E P "__doc__" 2631 N]) 4),
  ⟨(T "type"), none, (.cls ⟨"PlanLines", [(T "object")], [(R 1651),(T "object")], 1650, "PlanLines", true, [], [], false, none, false⟩), L [none,none,(some (S "PlanLines" 2555)),(some (S "PlanLines" 2563)),(some (B "object.__new__")),(some (.bool true))]⟩,
  ob (T "getset_descriptor") (.fields (L [(S "__dict__" 2627),(R 1651),(B "function.__dict__"),(B "function.__dict__#set")])),
  ob (T "getset_descriptor") (.fields (L [(S "__weakref__" 2629),(R 1651),(B "ExceptionGroup.__weakref__"),N])),
  ob (T "super") (.fields (L [(R 1651),(R 1651),(R 1651)])),
  ob (T "builtin_function_or_method") (.fields (L [(B "object.__init_subclass__"),(R 1651)])),
  tu [],
  fi [],
  tu [(S "text" 2637),(S "source" 2638),(S "rounds" 2639),(S "cubes" 2640),(S "deep" 2641),(S "regions" 2642),(S "reader" 2643),(S "region" 2644),(S "fields" 2645),(S "worths" 2646),(S "wishes" 2647)],
  tu [(S "dims" 2648),(S "known" 2649),(S "places" 2650)],
  ob N (.func ((st 260) "read_plan" "read_plan" 0 [] N N N N none N N 0)),
  co [(S "read_plan" 2634),(S "read_plan" 2635),(S "/claim/cut.py" 2636),(I 1569),(I 1),(I 0),(I 0),(I 3),(R 1656),(.bool true),(I 370),(R 1657),N,(R 1658),(R 1659),(R 1660),(I 2651),(I 1569),(S "/claim/cut.py" 2652)],
  ob (T "function") (.func ((st 260) "read_plan" "read_plan" 3 [] N N N (S "wholefaces.plantexts" 2553) none (R 1661) N 0)),
  tu [],
  fi [],
  ob N (.func ((st 261) "plan_text" "plan_text" 0 [] N N N N none N N 0)),
  co [(S "plan_text" 2654),(S "plan_text" 2655),(S "/claim/cut.py" 2656),(I 1588),(I 1),(I 0),(I 0),(I 3),(R 1663),(.bool true),(I 370),(R 1664),N,N,N,(R 1665),(I 2657),(I 1588),(S "/claim/cut.py" 2658)],
  ob (T "function") (.func ((st 261) "plan_text" "plan_text" 3 [] N N N (S "wholefaces.plantexts" 2553) none (R 1666) N 0)),
  tu [],
  fi [],
  tu [(S "top" 2667),(S "bottom" 2668),(S "shared" 2669)],
  tu [],
  ob N (.func ((st 264) "_shown" "_shown" 0 [] N N N N none N N 0)),
  co [(S "_shown" 2664),(S "_shown" 2665),(S "/claim/cut.py" 2666),(I 1601),(I 2),(I 0),(I 0),(I 3),(R 1668),(.bool true),(I 370),(R 1669),N,(R 1670),(R 1671),(R 1672),(I 2670),(I 1601),(S "/claim/cut.py" 2671)]]

def os29 (P : Params) : List Obj := [
  ob (T "function") (.func ((st 264) "_shown" "_shown" 3 [] N N N (S "wholefaces.pointtexts" 2660) none (R 1673) N 0)),
  tu [],
  fi [],
  tu [(S "quotient" 2676)],
  tu [],
  ob N (.func ((st 265) "quotient_line" "quotient_line" 0 [] N N N N none N N 0)),
  co [(S "quotient_line" 2673),(S "quotient_line" 2674),(S "/claim/cut.py" 2675),(I 1606),(I 1),(I 0),(I 0),(I 3),(R 1675),(.bool true),(I 370),(R 1676),N,(R 1677),(R 1678),(R 1679),(I 2677),(I 1606),(S "/claim/cut.py" 2678)],
  ob (T "function") (.func ((st 265) "quotient_line" "quotient_line" 3 [] N N N (S "wholefaces.pointtexts" 2660) none (R 1680) N 0)),
  tu [],
  fi [],
  ob N (.func ((st 266) "point_line" "point_line" 0 [] N N N N none N N 0)),
  co [(S "point_line" 2680),(S "point_line" 2681),(S "/claim/cut.py" 2682),(I 1610),(I 2),(I 0),(I 0),(I 3),(R 1682),(.bool true),(I 370),(R 1683),N,N,N,(R 1684),(I 2683),(I 1610),(S "/claim/cut.py" 2684)],
  ob (T "function") (.func ((st 266) "point_line" "point_line" 3 [] N N N (S "wholefaces.pointtexts" 2660) none (R 1685) N 0)),
  tu [],
  fi [],
  ob N (.func ((st 267) "place_line" "place_line" 0 [] N N N N none N N 0)),
  co [(S "place_line" 2686),(S "place_line" 2687),(S "/claim/cut.py" 2688),(I 1615),(I 2),(I 0),(I 0),(I 3),(R 1687),(.bool true),(I 370),(R 1688),N,N,N,(R 1689),(I 2689),(I 1615),(S "/claim/cut.py" 2690)],
  ob (T "function") (.func ((st 267) "place_line" "place_line" 3 [] N N N (S "wholefaces.pointtexts" 2660) none (R 1690) N 0)),
  tu [],
  fi [],
  tu [(S "text" 2695),(S "at" 2696),(S "sign" 2697)],
  tu [],
  ob N (.func ((st 268) "_passed" "_passed" 0 [] N N N N none N N 0)),
  co [(S "_passed" 2692),(S "_passed" 2693),(S "/claim/cut.py" 2694),(I 1620),(I 3),(I 0),(I 0),(I 3),(R 1692),(.bool true),(I 370),(R 1693),N,(R 1694),(R 1695),(R 1696),(I 2698),(I 1620),(S "/claim/cut.py" 2699)],
  ob (T "function") (.func ((st 268) "_passed" "_passed" 3 [] N N N (S "wholefaces.pointtexts" 2660) none (R 1697) N 0)),
  tu [],
  fi [],
  tu [(S "text" 2704),(S "at" 2705),(S "lets_nought" 2706),(S "figure" 2707)],
  tu [],
  ob N (.func ((st 269) "_first_figure" "_first_figure" 0 [] N N N N none N N 0)),
  co [(S "_first_figure" 2701),(S "_first_figure" 2702),(S "/claim/cut.py" 2703),(I 1624),(I 3),(I 0),(I 0),(I 3),(R 1699),(.bool true),(I 370),(R 1700),N,(R 1701),(R 1702),(R 1703),(I 2708),(I 1624),(S "/claim/cut.py" 2709)],
  ob (T "function") (.func ((st 269) "_first_figure" "_first_figure" 3 [] N N N (S "wholefaces.pointtexts" 2660) none (R 1704) N 0)),
  tu [],
  fi [],
  tu [(S "text" 2714),(S "at" 2715)],
  tu [],
  ob N (.func ((st 270) "_behind_figures" "_behind_figures" 0 [] N N N N none N N 0)),
  co [(S "_behind_figures" 2711),(S "_behind_figures" 2712),(S "/claim/cut.py" 2713),(I 1629),(I 2),(I 0),(I 0),(I 3),(R 1706),(.bool true),(I 370),(R 1707),N,(R 1708),(R 1709),(R 1710),(I 2716),(I 1629),(S "/claim/cut.py" 2717)],
  ob (T "function") (.func ((st 270) "_behind_figures" "_behind_figures" 3 [] N N N (S "wholefaces.pointtexts" 2660) none (R 1711) N 0)),
  tu [],
  fi [],
  tu [(S "text" 2722),(S "at" 2723),(S "signed" 2724)],
  tu [],
  ob N (.func ((st 271) "_behind_integer" "_behind_integer" 0 [] N N N N none N N 0)),
  co [(S "_behind_integer" 2719),(S "_behind_integer" 2720),(S "/claim/cut.py" 2721),(I 1633),(I 2),(I 0),(I 0),(I 3),(R 1713),(.bool true),(I 370),(R 1714),N,(R 1715),(R 1716),(R 1717),(I 2725),(I 1633),(S "/claim/cut.py" 2726)],
  ob (T "function") (.func ((st 271) "_behind_integer" "_behind_integer" 3 [] N N N (S "wholefaces.pointtexts" 2660) none (R 1718) N 0)),
  tu [],
  fi [],
  tu [(S "text" 2731),(S "at" 2732),(S "behind" 2733),(S "top" 2734),(S "start" 2735),(S "bottom" 2736)],
  tu [],
  ob N (.func ((st 272) "_quotient_at" "_quotient_at" 0 [] N N N N none N N 0)),
  co [(S "_quotient_at" 2728),(S "_quotient_at" 2729),(S "/claim/cut.py" 2730),(I 1640),(I 2),(I 0),(I 0),(I 3),(R 1720),(.bool true),(I 370),(R 1721),N,(R 1722),(R 1723),(R 1724),(I 2737),(I 1640),(S "/claim/cut.py" 2738)],
  ob (T "function") (.func ((st 272) "_quotient_at" "_quotient_at" 3 [] N N N (S "wholefaces.pointtexts" 2660) none (R 1725) N 0)),
  tu [],
  fi [],
  tu [(S "text" 2743)],
  tu [],
  ob N (.func ((st 273) "_look_text" "_look_text" 0 [] N N N N none N N 0)),
  co [(S "_look_text" 2740),(S "_look_text" 2741),(S "/claim/cut.py" 2742),(I 1652),(I 1),(I 0),(I 0),(I 3),(R 1727),(.bool true),(I 370),(R 1728),N,(R 1729),(R 1730),(R 1731),(I 2744),(I 1652),(S "/claim/cut.py" 2745)],
  ob (T "function") (.func ((st 273) "_look_text" "_look_text" 3 [] N N N (S "wholefaces.pointtexts" 2660) none (R 1732) N 0))]

def os30 (P : Params) : List Obj := [
  tu [],
  fi [],
  tu [(S "text" 2750),(S "at" 2751)],
  tu [],
  ob N (.func ((st 274) "_ended" "_ended" 0 [] N N N N none N N 0)),
  co [(S "_ended" 2747),(S "_ended" 2748),(S "/claim/cut.py" 2749),(I 1655),(I 2),(I 0),(I 0),(I 3),(R 1734),(.bool true),(I 370),(R 1735),N,(R 1736),(R 1737),(R 1738),(I 2752),(I 1655),(S "/claim/cut.py" 2753)],
  ob (T "function") (.func ((st 274) "_ended" "_ended" 3 [] N N N (S "wholefaces.pointtexts" 2660) none (R 1739) N 0)),
  tu [],
  fi [],
  tu [(S "text" 2758),(S "quotient" 2759),(S "at" 2760)],
  tu [],
  ob N (.func ((st 275) "read_quotient" "read_quotient" 0 [] N N N N none N N 0)),
  co [(S "read_quotient" 2755),(S "read_quotient" 2756),(S "/claim/cut.py" 2757),(I 1658),(I 1),(I 0),(I 0),(I 3),(R 1741),(.bool true),(I 370),(R 1742),N,(R 1743),(R 1744),(R 1745),(I 2761),(I 1658),(S "/claim/cut.py" 2762)],
  ob (T "function") (.func ((st 275) "read_quotient" "read_quotient" 3 [] N N N (S "wholefaces.pointtexts" 2660) none (R 1746) N 0)),
  tu [],
  fi [],
  tu [(S "space" 2767),(S "text" 2768),(S "numbers" 2769),(S "at" 2770),(S "direction" 2771),(S "behind" 2772)],
  tu [],
  ob N (.func ((st 276) "read_point" "read_point" 0 [] N N N N none N N 0)),
  co [(S "read_point" 2764),(S "read_point" 2765),(S "/claim/cut.py" 2766),(I 1663),(I 2),(I 0),(I 0),(I 3),(R 1748),(.bool true),(I 370),(R 1749),N,(R 1750),(R 1751),(R 1752),(I 2773),(I 1663),(S "/claim/cut.py" 2774)],
  ob (T "function") (.func ((st 276) "read_point" "read_point" 3 [] N N N (S "wholefaces.pointtexts" 2660) none (R 1753) N 0)),
  tu [],
  fi [],
  ob N (.func ((st 277) "read_place" "read_place" 0 [] N N N N none N N 0)),
  co [(S "read_place" 2776),(S "read_place" 2777),(S "/claim/cut.py" 2778),(I 1675),(I 2),(I 0),(I 0),(I 3),(R 1755),(.bool true),(I 370),(R 1756),N,N,N,(R 1757),(I 2779),(I 1675),(S "/claim/cut.py" 2780)],
  ob (T "function") (.func ((st 277) "read_place" "read_place" 3 [] N N N (S "wholefaces.pointtexts" 2660) none (R 1758) N 0)),
  tu [],
  fi [],
  tu [(S "_law_script" 2787),(S "_law_start" 2788),(S "_law_rest" 2789),(S "_law_mixed" 2790),(S "_law_cell" 2791),(S "_law_size" 2792)],
  tu [],
  ob N (.func ((st 279) "_law_tape" "_law_tape" 0 [] N N N N none N N 0)),
  co [(S "_law_tape" 2784),(S "_law_tape" 2785),(S "/claim/cut.py" 2786),(I 1689),(I 2),(I 0),(I 0),(I 3),(R 1760),(.bool true),(I 370),(R 1761),N,(R 1762),(R 1763),(R 1764),(I 2793),(I 1689),(S "/claim/cut.py" 2794)],
  ob (T "function") (.func ((st 279) "_law_tape" "_law_tape" 3 [] N N N (S "law_wholefaces_k76_whole_names_a_to_c" 2782) none (R 1765) N 0)),
  tu [],
  fi [],
  tu [(S "_law_tape_here" 2799),(S "_law_many" 2800),(S "_law_got" 2801)],
  tu [],
  ob N (.func ((st 280) "_law_draw" "_law_draw" 0 [] N N N N none N N 0)),
  co [(S "_law_draw" 2796),(S "_law_draw" 2797),(S "/claim/cut.py" 2798),(I 1699),(I 2),(I 0),(I 0),(I 3),(R 1767),(.bool true),(I 370),(R 1768),N,(R 1769),(R 1770),(R 1771),(I 2802),(I 1699),(S "/claim/cut.py" 2803)],
  ob (T "function") (.func ((st 280) "_law_draw" "_law_draw" 3 [] N N N (S "law_wholefaces_k76_whole_names_a_to_c" 2782) none (R 1772) N 0)),
  tu [],
  fi [],
  tu [(S "_law_told_here" 2808),(S "_law_due" 2809),(S "_law_k" 2810)],
  tu [],
  ob N (.func ((st 281) "_law_same" "_law_same" 0 [] N N N N none N N 0)),
  co [(S "_law_same" 2805),(S "_law_same" 2806),(S "/claim/cut.py" 2807),(I 1706),(I 2),(I 0),(I 0),(I 3),(R 1774),(.bool true),(I 370),(R 1775),N,(R 1776),(R 1777),(R 1778),(I 2811),(I 1706),(S "/claim/cut.py" 2812)],
  ob (T "function") (.func ((st 281) "_law_same" "_law_same" 3 [] N N N (S "law_wholefaces_k76_whole_names_a_to_c" 2782) none (R 1779) N 0)),
  tu [],
  fi [],
  tu [(S "_law_low" 2817),(S "_law_first_here" 2818),(S "_law_second_here" 2819),(S "_law_field" 2820),(S "_law_solid" 2821)],
  tu [],
  ob N (.func ((st 282) "_law_place" "_law_place" 0 [] N N N N none N N 0)),
  co [(S "_law_place" 2814),(S "_law_place" 2815),(S "/claim/cut.py" 2816),(I 1723),(I 0),(I 0),(I 0),(I 3),(R 1781),(.bool true),(I 370),(R 1782),N,(R 1783),(R 1784),(R 1785),(I 2822),(I 1723),(S "/claim/cut.py" 2823)],
  ob (T "function") (.func ((st 282) "_law_place" "_law_place" 3 [] N N N (S "law_wholefaces_k76_whole_names_a_to_c" 2782) none (R 1786) N 0)),
  tu [],
  fi [],
  tu [(S "_law_v" 2828)],
  tu [(S "_law_v" 2829),(S "_law_s" 2830)],
  ob N (.func ((st 283) "_law_first" "_law_first" 0 [] N N N N none N N 0)),
  co [(S "_law_first" 2825),(S "_law_first" 2826),(S "/claim/cut.py" 2827),(I 1728),(I 1),(I 0),(I 0),(I 3),(R 1788),(.bool true),(I 370),(R 1789),N,(R 1790),(R 1791),(R 1792),(I 2831),(I 1728),(S "/claim/cut.py" 2832)]]

def os31 (P : Params) : List Obj := [
  ob (T "function") (.func ((st 283) "_law_first" "_law_first" 3 [] N N N (S "law_wholefaces_k76_whole_names_a_to_c" 2782) none (R 1793) N 0)),
  tu [],
  fi [],
  tu [(S "_law_v" 2837),(S "_law_ring" 2838)],
  tu [(S "_law_boxes" 2839),(S "_law_s" 2840),(S "_law_some" 2841)],
  ob N (.func ((st 284) "_law_second" "_law_second" 0 [] N N N N none N N 0)),
  co [(S "_law_second" 2834),(S "_law_second" 2835),(S "/claim/cut.py" 2836),(I 1755),(I 1),(I 0),(I 0),(I 3),(R 1795),(.bool true),(I 370),(R 1796),N,(R 1797),(R 1798),(R 1799),(I 2842),(I 1755),(S "/claim/cut.py" 2843)],
  ob (T "function") (.func ((st 284) "_law_second" "_law_second" 3 [] N N N (S "law_wholefaces_k76_whole_names_a_to_c" 2782) none (R 1800) N 0)),
  tu [],
  fi [],
  tu [(S "_law_v" 2848),(S "_law_high" 2849),(S "_law_up" 2850)],
  tu [(S "_law_low" 2851),(S "_law_r" 2852),(S "_law_roots" 2853),(S "_law_s" 2854),(S "_law_t" 2855)],
  ob N (.func ((st 285) "_law_third" "_law_third" 0 [] N N N N none N N 0)),
  co [(S "_law_third" 2845),(S "_law_third" 2846),(S "/claim/cut.py" 2847),(I 1776),(I 1),(I 0),(I 0),(I 3),(R 1802),(.bool true),(I 370),(R 1803),N,(R 1804),(R 1805),(R 1806),(I 2856),(I 1776),(S "/claim/cut.py" 2857)],
  ob (T "function") (.func ((st 285) "_law_third" "_law_third" 3 [] N N N (S "law_wholefaces_k76_whole_names_a_to_c" 2782) none (R 1807) N 0)),
  tu [],
  fi [],
  tu [(S "_law_v" 2862),(S "_law_held" 2863)],
  tu [(S "_law_r" 2864),(S "_law_s" 2865)],
  ob N (.func ((st 286) "_law_fourth" "_law_fourth" 0 [] N N N N none N N 0)),
  co [(S "_law_fourth" 2859),(S "_law_fourth" 2860),(S "/claim/cut.py" 2861),(I 1804),(I 1),(I 0),(I 0),(I 3),(R 1809),(.bool true),(I 370),(R 1810),N,(R 1811),(R 1812),(R 1813),(I 2866),(I 1804),(S "/claim/cut.py" 2867)],
  ob (T "function") (.func ((st 286) "_law_fourth" "_law_fourth" 3 [] N N N (S "law_wholefaces_k76_whole_names_a_to_c" 2782) none (R 1814) N 0)),
  tu [],
  fi [],
  tu [(S "_law_n" 2872)],
  tu [],
  ob N (.func ((st 287) "_law_empty" "_law_empty" 0 [] N N N N none N N 0)),
  co [(S "_law_empty" 2869),(S "_law_empty" 2870),(S "/claim/cut.py" 2871),(I 1821),(I 1),(I 0),(I 0),(I 3),(R 1816),(.bool true),(I 370),(R 1817),N,(R 1818),(R 1819),(R 1820),(I 2873),(I 1821),(S "/claim/cut.py" 2874)],
  ob (T "function") (.func ((st 287) "_law_empty" "_law_empty" 3 [] N N N (S "law_wholefaces_k76_whole_names_a_to_c" 2782) none (R 1821) N 0)),
  tu [],
  fi [],
  tu [(S "_law_v" 2879)],
  tu [(S "_law_level" 2880),(S "_law_one" 2881),(S "_law_plan" 2882),(S "_law_s" 2883),(S "_law_text" 2884),(S "_law_tree" 2885)],
  ob N (.func ((st 288) "_law_fifth" "_law_fifth" 0 [] N N N N none N N 0)),
  co [(S "_law_fifth" 2876),(S "_law_fifth" 2877),(S "/claim/cut.py" 2878),(I 1830),(I 1),(I 0),(I 0),(I 3),(R 1823),(.bool true),(I 370),(R 1824),N,(R 1825),(R 1826),(R 1827),(I 2886),(I 1830),(S "/claim/cut.py" 2887)],
  ob (T "function") (.func ((st 288) "_law_fifth" "_law_fifth" 3 [] N N N (S "law_wholefaces_k76_whole_names_a_to_c" 2782) none (R 1828) N 0)),
  tu [],
  fi [],
  tu [(S "_law_v" 2892),(S "_law_lone" 2893)],
  tu [(S "_law_v" 2894),(S "_law_a" 2895),(S "_law_f" 2896),(S "_law_half" 2897),(S "_law_q" 2898),(S "_law_r" 2899),(S "_law_s" 2900)],
  ob N (.func ((st 289) "_law_sixth" "_law_sixth" 0 [] N N N N none N N 0)),
  co [(S "_law_sixth" 2889),(S "_law_sixth" 2890),(S "/claim/cut.py" 2891),(I 1854),(I 1),(I 0),(I 0),(I 3),(R 1830),(.bool true),(I 370),(R 1831),N,(R 1832),(R 1833),(R 1834),(I 2901),(I 1854),(S "/claim/cut.py" 2902)],
  ob (T "function") (.func ((st 289) "_law_sixth" "_law_sixth" 3 [] N N N (S "law_wholefaces_k76_whole_names_a_to_c" 2782) none (R 1835) N 0)),
  tu [],
  fi [],
  tu [(S "_law_v" 2907),(S "_law_left" 2908),(S "_law_floor" 2909),(S "_law_wide" 2910),(S "_law_roof" 2911),(S "_law_right" 2912),(S "_law_book" 2913)],
  tu [(S "_law_both" 2914)],
  ob N (.func ((st 290) "_law_seventh" "_law_seventh" 0 [] N N N N none N N 0)),
  co [(S "_law_seventh" 2904),(S "_law_seventh" 2905),(S "/claim/cut.py" 2906),(I 1881),(I 1),(I 0),(I 0),(I 3),(R 1837),(.bool true),(I 370),(R 1838),N,(R 1839),(R 1840),(R 1841),(I 2915),(I 1881),(S "/claim/cut.py" 2916)],
  ob (T "function") (.func ((st 290) "_law_seventh" "_law_seventh" 3 [] N N N (S "law_wholefaces_k76_whole_names_a_to_c" 2782) none (R 1842) N 0)),
  tu [],
  fi [],
  tu [(S "_law_v" 2921),(S "_law_rows" 2922)],
  tu [],
  ob N (.func ((st 291) "_law_tables" "_law_tables" 0 [] N N N N none N N 0)),
  co [(S "_law_tables" 2918),(S "_law_tables" 2919),(S "/claim/cut.py" 2920),(I 1894),(I 1),(I 0),(I 0),(I 3),(R 1844),(.bool true),(I 370),(R 1845),N,(R 1846),(R 1847),(R 1848),(I 2923),(I 1894),(S "/claim/cut.py" 2924)],
  ob (T "function") (.func ((st 291) "_law_tables" "_law_tables" 3 [] N N N (S "law_wholefaces_k76_whole_names_a_to_c" 2782) none (R 1849) N 0)),
  tu [],
  fi [],
  tu [(S "_law_act" 2929),(S "_law_n" 2930)]]

def os32 (P : Params) : List Obj := [
  tu [],
  ob N (.func ((st 292) "_law_told" "_law_told" 0 [] N N N N none N N 0)),
  co [(S "_law_told" 2926),(S "_law_told" 2927),(S "/claim/cut.py" 2928),(I 1897),(I 2),(I 0),(I 0),(I 3),(R 1851),(.bool true),(I 370),(R 1852),N,(R 1853),(R 1854),(R 1855),(I 2931),(I 1897),(S "/claim/cut.py" 2932)],
  ob (T "function") (.func ((st 292) "_law_told" "_law_told" 3 [] N N N (S "law_wholefaces_k76_whole_names_a_to_c" 2782) none (R 1856) N 0)),
  tu [],
  fi [],
  tu [(S "_law_script" 2937),(S "_law_tape_here" 2938),(S "_law_part" 2939),(S "_law_named" 2940),(S "_law_plain" 2941),(S "_law_k" 2942),(S "_law_due" 2943)],
  tu [],
  ob N (.func ((st 293) "law" "law" 0 [] N N N N none N N 0)),
  co [(S "law" 2934),(S "law" 2935),(S "/claim/cut.py" 2936),(I 1902),(I 1),(I 0),(I 0),(I 3),(R 1858),(.bool true),(I 370),(R 1859),N,(R 1860),(R 1861),(R 1862),(I 2944),(I 1902),(S "/claim/cut.py" 2945)],
  ob (T "function") (.func ((st 293) "law" "law" 3 [] N N N (S "law_wholefaces_k76_whole_names_a_to_c" 2782) none (R 1863) N 0))]

def objs2 (w : World) : List Obj := anew 0 (objs1 w) (up2 w.params) ++ (os23 w.params ++ (os24 w.params ++ (os25 w.params ++ (os26 w.params ++ (os27 w.params ++ (os28 w.params ++ (os29 w.params ++ (os30 w.params ++ (os31 w.params ++ (os32 w.params))))))))))
def toks2 : Nat := 2947
def env : Env := { scope := lawP.main.scope, locals := mainNs, globals := mainNs, cells := [], code := .ref 41, frame := some 42 }
def thr0 : Thread := ⟨HandSHeadRun.denQ HandSHeadRun.tabQ (.body ((PySem.W.behindTheImports lawP).drop 108) env), .body (PySem.W.behindTheImports lawP) env, ⟨596, 0, 596, 8⟩, [PySem.W.topFrame ⟨0, 0, 0, 0⟩]⟩
def thr1 : Thread := ⟨HandSHeadRun.denQ HandSHeadRun.tabQ (.body ((PySem.W.behindTheImports lawP).drop 206) env), .body (PySem.W.behindTheImports lawP) env, ⟨1217, 0, 1224, 93⟩, [PySem.W.topFrame ⟨0, 0, 0, 0⟩]⟩
end Amid
section
/-- exactly so many steps of the top -/
def goK (st : PySem.W.SharedT → Thread → Option (PySem.W.SharedT × Thread)) (n0 : Nat) (ann : Option Value) : Nat → PySem.W.SharedT → Thread → Option (PySem.W.SharedT × Thread)
  | 0, s, t => some (s, t)
  | m + 1, s, t => match PySem.W.through t with
    | true => none
    | false => match PySem.W.stepOk n0 ann t with
      | false => none
      | true => match st s t with
        | some (s', t') => HandSHeadRun.frS s' fun s' => goK st n0 ann m s' t'
        | none => none
theorem goK_ok {tb : String → Option Builtin} {p : Program} {w : World} {n0 : Nat} {ann : Option Value} {N : Nat} {r : Shared} : ∀ {m : Nat} {s s' : PySem.W.SharedT} {t t' : Thread}, goK (PySem.W.stepT (denote tb) p w) n0 ann m s t = some (s', t') → PySem.W.topRun tb p w n0 ann N s'.abs t' = some r → PySem.W.topRun tb p w n0 ann (m + N) s.abs t = some r
  | 0, s, s', t, t', h, k => by
    cases h
    rw [Nat.zero_add]
    exact k
  | m + 1, s, s', t, t', h, k => by
    rw [show m + 1 + N = m + N + 1 by omega]
    unfold goK at h
    unfold PySem.W.topRun
    cases e1 : PySem.W.through t with
    | true => rw [e1] at h; cases h
    | false =>
      rw [e1] at h
      cases e2 : PySem.W.stepOk n0 ann t with
      | false => rw [e2] at h; cases h
      | true =>
        rw [e2] at h
        cases e3 : PySem.W.stepT (denote tb) p w s t with
        | none => rw [e3] at h; cases h
        | some q =>
          obtain ⟨s2, t2⟩ := q
          rw [e3] at h
          have h : (HandSHeadRun.frS s2 fun s' => goK (PySem.W.stepT (denote tb) p w) n0 ann m s' t2) = some (s', t') := h
          rw [HandSHeadRun.frS_eq] at h
          have q := goK_ok (N := N) h k
          show (match step (denote tb) p w s.abs t with
            | .go s' t' => PySem.W.topRun tb p w n0 ann (m + N) s' t'
            | .halt _ _ => none) = some r
          rw [PySem.W.stepT_spec e3]
          exact q
theorem openF_ok {M : Nat} {p : Program} {w : World} {s0 : Shared} {x : PySem.W.SharedT} (h : openF (fun q => PySem.W.stepT (denote PySem.treeTable) q w) PySem.fenceModules? M p = some (s0, x)) :
    PySem.W.fencedOpening PySem.treeTable p w M = some s0 ∧ (s0.heap.isNs mainGlobals && s0.gens.size == 0) = true ∧ x.abs = s0 ∧ s0.heap.objs.size = x.n := by
  unfold openF at h
  cases e1 : HandSHeadRun.impF (PySem.W.stepT (denote PySem.treeTable) (PySem.W.opening p) w) M (HandSHeadRun.startT (PySem.W.opening p)) (start (PySem.W.opening p)).2 with
  | none =>
    rw [e1] at h
    cases h
  | some s =>
    rw [e1] at h
    have h1 : (match PySem.fenceModules? p s.abs with
      | some s0 => (match s0.heap.isNs mainGlobals && s0.gens.size == 0 with
        | true => (match HandSHeadRun.treeOf s0 with
          | some x => some (s0, x)
          | none => none)
        | false => none)
      | none => none) = some (s0, x) := h
    have a1 := HandSHeadRun.impF_ok e1
    rw [HandSHeadRun.startT_eq] at a1
    cases e2 : PySem.fenceModules? p s.abs with
    | none =>
      rw [e2] at h1
      cases h1
    | some z =>
      rw [e2] at h1
      have h2 : (match z.heap.isNs mainGlobals && z.gens.size == 0 with
        | true => (match HandSHeadRun.treeOf z with
          | some x => some (z, x)
          | none => none)
        | false => none) = some (s0, x) := h1
      cases e3 : z.heap.isNs mainGlobals && z.gens.size == 0 with
      | false =>
        rw [e3] at h2
        cases h2
      | true =>
        rw [e3] at h2
        have h3 : (match HandSHeadRun.treeOf z with
          | some x => some (z, x)
          | none => none) = some (s0, x) := h2
        cases e4 : HandSHeadRun.treeOf z with
        | none =>
          rw [e4] at h3
          cases h3
        | some y =>
          rw [e4] at h3
          have h4 : (z, y) = (s0, x) := Option.some.inj h3
          obtain ⟨rfl, rfl⟩ := Prod.mk.inj h4
          obtain ⟨ex, en⟩ := HandSHeadRun.treeOf_eq e4
          refine ⟨?_, e3, ex, en⟩
          unfold PySem.W.fencedOpening
          rw [a1]
          exact e2
/-- what is seen of the state amid the top -/
abbrev SeenA : Type := List Obj × Life × Array GenState × Drawn × Nat × OsState × Thread
def seenA (y : PySem.W.SharedT × Thread) : SeenA := (y.1.tree.list y.1.n, y.1.life, y.1.gens, y.1.drawn, y.1.toks, y.1.os, y.2)
def ofA (l : List Obj) (f : Life) (g : Array GenState) (d : Drawn) (k : Nat) (o : OsState) : Shared := ⟨⟨l.toArray, f⟩, g, d, k, o⟩
def endA {α : Type} (st : PySem.W.SharedT → Thread → Option (PySem.W.SharedT × Thread)) (n0 : Nat) (ann : Option Value) (N : Nat) (m : Shared) (t : Thread) (f : PySem.W.SharedT → α) : Option α := match HandSHeadRun.treeOf m with
  | some x => HandSHeadRun.frS x fun x => (HandSHeadRun.goF st n0 ann N x t).map f
  | none => none
def midA (st : PySem.W.SharedT → Thread → Option (PySem.W.SharedT × Thread)) (n0 : Nat) (ann : Option Value) (k : Nat) (m : Shared) (t : Thread) : Option SeenA := match HandSHeadRun.treeOf m with
  | some x => HandSHeadRun.frS x fun x => (goK st n0 ann k x t).map seenA
  | none => none
abbrev SeenS : Type := List Obj × Life × Array GenState × Drawn × Nat × OsState
def seenS (y : PySem.W.SharedT) : SeenS := (y.tree.list y.n, y.life, y.gens, y.drawn, y.toks, y.os)
theorem seenA_abs {y : PySem.W.SharedT × Thread} {l : List Obj} {lf : Life} {g : Array GenState} {dr : Drawn} {tk : Nat} {o : OsState} {th : Thread} (h : seenA y = (l, lf, g, dr, tk, o, th)) : y.1.abs = ofA l lf g dr tk o ∧ y.2 = th := by
  obtain ⟨⟨yt, yn, yl, yg, yd, yk, yo⟩, t⟩ := y
  have h : (yt.list yn, yl, yg, yd, yk, yo, t) = (l, lf, g, dr, tk, o, th) := h
  simp only [Prod.mk.injEq] at h
  obtain ⟨e1, e2, e3, e4, e5, e6, e7⟩ := h
  refine ⟨?_, e7⟩
  show (⟨⟨(yt.list yn).toArray, yl⟩, yg, yd, yk, yo⟩ : Shared) = _
  rw [e1, e2, e3, e4, e5, e6]
  rfl
theorem seenS_abs {y : PySem.W.SharedT} {l : List Obj} {lf : Life} {g : Array GenState} {dr : Drawn} {tk : Nat} {o : OsState} (h : seenS y = (l, lf, g, dr, tk, o)) : y.abs = ofA l lf g dr tk o := by
  obtain ⟨yt, yn, yl, yg, yd, yk, yo⟩ := y
  have h : (yt.list yn, yl, yg, yd, yk, yo) = (l, lf, g, dr, tk, o) := h
  simp only [Prod.mk.injEq] at h
  obtain ⟨e1, e2, e3, e4, e5, e6⟩ := h
  show (⟨⟨(yt.list yn).toArray, yl⟩, yg, yd, yk, yo⟩ : Shared) = _
  rw [e1, e2, e3, e4, e5, e6]
  rfl
theorem left_cut {p q : Program} {loose : List Str} {Xt : Shared → Bool} {α : Type} {Yf : Shared → α} {Ya : World → α} {k1 k2 N n0 : Nat} {ann : Option Value} {l1 l2 l3 : World → List Obj} {lf : Life} {g : Array GenState} {dr : Drawn} {t1 t2 t3 : Nat} {o : OsState} {th1 th2 : Thread}
    (A1 : ∀ w : World, (openF (fun q => PySem.W.stepT (denote PySem.treeTable) q w) PySem.fenceModules? (k1 + (k2 + N)) p).bind (fun r => (goK (PySem.W.stepT (denote PySem.treeTable) p w) r.2.n (annOf r.1) k1 r.2 (PySem.W.topStub p)).map fun y => (r.2.n, annOf r.1, seenA y)) = some (n0, ann, l1 w, lf, g, dr, t1, o, th1))
    (A2 : ∀ w : World, midA (PySem.W.stepT (denote PySem.treeTable) p w) n0 ann k2 (ofA (l1 w) lf g dr t1 o) th1 = some (l2 w, lf, g, dr, t2, o, th2))
    (A3 : ∀ w : World, endA (PySem.W.stepT (denote PySem.treeTable) p w) n0 ann N (ofA (l2 w) lf g dr t2 o) th2 seenS = some (l3 w, lf, g, dr, t3, o))
    (C1 : ∀ w : World, (openF (fun q => PySem.W.stepT (denote PySem.treeTable) q w) PySem.fenceModules? (k1 + (k2 + N)) p).map (fun r => HandSHeadRun.looksF p r.1.heap (ofA (l3 w) lf g dr t3 o)) = some true)
    (C2 : ∀ w : World, PySem.W.openSeen q loose (PySem.importedModules p.main.body) Xt true (ofA (l3 w) lf g dr t3 o) = PySem.W.openGood q loose)
    (C3 : ∀ w : World, Yf (ofA (l3 w) lf g dr t3 o) = Ya w) :
    PySem.W.LeftO p q loose Xt Yf Ya (k1 + (k2 + N)) true := fun w => by
  obtain ⟨⟨s0, x⟩, eo, a⟩ := Option.bind_eq_some_iff.mp (A1 w)
  have c1 := C1 w
  rw [eo] at c1
  obtain ⟨h1, h2, h3, h4⟩ := openF_ok eo
  obtain ⟨y, a1, a2⟩ := Option.map_eq_some_iff.mp (show (goK (PySem.W.stepT (denote PySem.treeTable) p w) x.n (annOf s0) k1 x (PySem.W.topStub p)).map (fun y => (x.n, annOf s0, seenA y)) = some (n0, ann, l1 w, lf, g, dr, t1, o, th1) from a)
  obtain ⟨en, a2⟩ := Prod.mk.inj a2
  obtain ⟨ea, a2⟩ := Prod.mk.inj a2
  obtain ⟨ya, yt⟩ := seenA_abs a2
  have b := A2 w
  unfold midA at b
  cases em : HandSHeadRun.treeOf (ofA (l1 w) lf g dr t1 o) with
  | none => rw [em] at b; cases b
  | some m =>
    rw [em] at b
    obtain ⟨m1, _⟩ := HandSHeadRun.treeOf_eq em
    have b : (HandSHeadRun.frS m fun x1 => (goK (PySem.W.stepT (denote PySem.treeTable) p w) n0 ann k2 x1 th1).map seenA) = some (l2 w, lf, g, dr, t2, o, th2) := b
    rw [HandSHeadRun.frS_eq] at b
    obtain ⟨z, b1, b2⟩ := Option.map_eq_some_iff.mp b
    obtain ⟨za, zt⟩ := seenA_abs b2
    have c := A3 w
    unfold endA at c
    cases ek : HandSHeadRun.treeOf (ofA (l2 w) lf g dr t2 o) with
    | none => rw [ek] at c; cases c
    | some m' =>
      rw [ek] at c
      obtain ⟨m2, _⟩ := HandSHeadRun.treeOf_eq ek
      have c : (HandSHeadRun.frS m' fun x1 => (HandSHeadRun.goF (PySem.W.stepT (denote PySem.treeTable) p w) n0 ann N x1 th2).map seenS) = some (l3 w, lf, g, dr, t3, o) := c
      rw [HandSHeadRun.frS_eq] at c
      obtain ⟨s1, d1, d2⟩ := Option.map_eq_some_iff.mp c
      have es := seenS_abs d2
      have r3 := HandSHeadRun.goF_ok d1
      rw [m2, ← za, ← zt] at r3
      have r2 := goK_ok (N := N) b1 r3
      rw [m1, ← ya, ← yt, ← en, ← ea] at r2
      have r1 := goK_ok (N := k2 + N) a1 r2
      rw [h3, ← h4, es] at r1
      have l1' : (PySem.W.staticsOk (PySem.importedModules p.main.body) s0.heap (ofA (l3 w) lf g dr t3 o).heap && PySem.W.namesBound p (ofA (l3 w) lf g dr t3 o).heap && PySem.W.gensDone (ofA (l3 w) lf g dr t3 o) && PySem.W.laidKept s0.heap (ofA (l3 w) lf g dr t3 o).heap) = true := Option.some.inj c1
      have tt : PySem.W.topFrom PySem.treeTable p w (k1 + (k2 + N)) s0 = some (ofA (l3 w) lf g dr t3 o) := by
        unfold PySem.W.topFrom
        rw [h2]
        show (PySem.W.topRun PySem.treeTable p w s0.heap.objs.size (s0.heap.nsMap mainGlobals "__annotations__") (k1 + (k2 + N)) s0 (PySem.W.topStub p)).bind _ = _
        have t3 : PySem.W.topRun PySem.treeTable p w s0.heap.objs.size (s0.heap.nsMap mainGlobals "__annotations__") (k1 + (k2 + N)) s0 (PySem.W.topStub p) = some (ofA (l3 w) lf g dr t3 o) := r1
        rw [t3]
        show (match PySem.W.staticsOk (PySem.importedModules p.main.body) s0.heap (ofA (l3 w) lf g dr _ o).heap && PySem.W.namesBound p (ofA (l3 w) lf g dr _ o).heap && PySem.W.gensDone (ofA (l3 w) lf g dr _ o) && PySem.W.laidKept s0.heap (ofA (l3 w) lf g dr _ o).heap with | true => some (ofA (l3 w) lf g dr _ o) | false => none) = _
        rw [l1']
      unfold PySem.W.openEnds
      rw [h1]
      show (PySem.W.topFrom PySem.treeTable p w (k1 + (k2 + N)) s0).map _ = _
      rw [tt]
      exact congrArg some (Prod.ext (C2 w) (C3 w))
end
abbrev os0 : OsState := (start (PySem.W.opening lawP)).1.os
abbrev stA (w : World) : Shared := ofA (Amid.objs0 w) {} #[] {} Amid.toks0 os0
abbrev stB (w : World) : Shared := ofA (Amid.objs1 w) {} #[] {} Amid.toks1 os0
abbrev stC (w : World) : Shared := ofA (Amid.objs2 w) {} #[] {} Amid.toks2 os0
end K76
end

/-! text RunA -/
section
set_option maxHeartbeats 0
namespace K76
open PySem PySem.W PySem.Calls PyProof.Rows
/-! ### the top's run and what is seen behind it, by the kernel -/
theorem run1 (w : World) : (opened w).bind (fun r => (goK (stQ w lawP) r.2.n (annOf r.1) Amid.steps0 r.2 (PySem.W.topStub lawP)).map fun y => (r.2.n, annOf r.1, seenA y)) = some (39, some (.ref 6), Amid.objs0 w, {}, #[], {}, Amid.toks0, os0, Amid.thr0) := by kernel_rfl
theorem run2 (w : World) : midA (stQ w lawP) 39 (some (.ref 6)) Amid.steps1 (stA w) Amid.thr0 = some (Amid.objs1 w, {}, #[], {}, Amid.toks1, os0, Amid.thr1) := by kernel_rfl
theorem run3 (w : World) : endA (stQ w lawP) 39 (some (.ref 6)) Amid.left (stB w) Amid.thr1 seenS = some (Amid.objs2 w, {}, #[], {}, Amid.toks2, os0) := by kernel_rfl
theorem look1 (w : World) : (opened w).map (fun r => HandSHeadRun.looksF lawP r.1.heap (stC w)) = some true := by kernel_rfl
end K76
end

/-! text Ev -/
section
namespace K76
open PySem L2

/-! ### values, the store -/
structure Lam where
  params : Arguments
  body : Expr
  scope : Scope
  qual : Str
inductive D where
  | non
  | bl (b : Bool)
  | int (i : Int)
  | str (s : Str)
  | ty (n : String)
  | glo (x : Str)
  | tup (ds : List D)
  | loc (n : Nat)
  | lam (l : Lam) (caps : List D)
inductive OD where
  | lst (ds : List D)
  | dct (kvs : List (D × D))
  | set (ds : List D)
  | ins (c : Str) (fs : List (Str × D))
  | dead
abbrev Sto := List OD
abbrev Env1 := List (Option D)

/-! ### small tools -/
def bnd {α β γ : Type} (o : Option (α × β)) (f : α → β → Option γ) : Option γ := match o with
  | some p => f p.1 p.2
  | none => none
def opt {α γ : Type} (o : Option α) (f : α → Option γ) : Option γ := match o with
  | some a => f a
  | none => none
def grd {γ : Type} (b : Bool) (x : Option γ) : Option γ := match b with
  | true => x
  | false => none
theorem bnd_some {α β γ : Type} {o : Option (α × β)} {f : α → β → Option γ} {r : γ} (h : bnd o f = some r) : ∃ a b, o = some (a, b) ∧ f a b = some r := by
  cases o with
  | none => cases h
  | some p => exact ⟨p.1, p.2, rfl, h⟩
theorem opt_some {α γ : Type} {o : Option α} {f : α → Option γ} {r : γ} (h : opt o f = some r) : ∃ a, o = some a ∧ f a = some r := by
  cases o with
  | none => cases h
  | some p => exact ⟨p, rfl, h⟩
theorem grd_some {γ : Type} {b : Bool} {x : Option γ} {r : γ} (h : grd b x = some r) : b = true ∧ x = some r := by
  cases b with
  | true => exact ⟨rfl, h⟩
  | false => cases h
def eqN : List Nat → List Nat → Bool
  | [], [] => true
  | [], _ :: _ => false
  | _ :: _, [] => false
  | a :: r, b :: q => match Nat.beq a b with
    | true => eqN r q
    | false => false
def eqS (a b : Str) : Bool := eqN a.cps.toList b.cps.toList
def findIx (x : Str) : List Str → Nat → Option Nat
  | [], _ => none
  | y :: r, n => match eqS y x with
    | true => some n
    | false => findIx x r (n + 1)
def nth {α : Type} : List α → Nat → Option α
  | [], _ => none
  | a :: _, 0 => some a
  | _ :: r, n + 1 => nth r n
def setN {α : Type} : List α → Nat → α → List α
  | [], _, _ => []
  | _ :: r, 0, b => b :: r
  | a :: r, n + 1, b => a :: setN r n b
def look {α : Type} (x : Str) : List (Str × α) → Option α
  | [] => none
  | p :: r => match eqS p.1 x with
    | true => some p.2
    | false => look x r
def hasK {α : Type} (x : Str) (l : List (Str × α)) : Bool := match look x l with
  | some _ => true
  | none => false
def hasS (x : Str) : List Str → Bool
  | [] => false
  | y :: r => match eqS y x with
    | true => true
    | false => hasS x r
def put (x : Str) (v : D) : List (Str × D) → List (Str × D)
  | [] => [(x, v)]
  | p :: r => match eqS p.1 x with
    | true => (p.1, v) :: r
    | false => p :: put x v r
def okStr (s : Str) : Bool := Nat.blt s.cps.size 16000000
def small {α : Type} (l : List α) : Bool := Nat.blt l.length 16000000

/-! ### data: equality, order -/
mutual
def toP : D → Option PyData
  | .non => some .none
  | .bl b => some (.bool b)
  | .int i => some (.int i)
  | .str s => some (.str s)
  | .tup ds => opt (toPs ds) fun ps => some (.tuple ps)
  | _ => none
def toPs : List D → Option (List PyData)
  | [] => some []
  | d :: r => opt (toP d) fun p => opt (toPs r) fun q => some (p :: q)
end
mutual
/-- == of data; none where it is not told here -/
def eqD : D → D → Option Bool
  | .non, y => match y with
    | .non => some true
    | .int _ | .str _ | .tup _ => some false
    | _ => none
  | .bl b, y => match y with
    | .bl c => some (b == c)
    | _ => none
  | .int i, y => match y with
    | .int j => some (decide (i = j))
    | .non | .str _ | .tup _ => some false
    | _ => none
  | .str s, y => match y with
    | .str t => some (eqS s t)
    | .non | .int _ | .tup _ => some false
    | _ => none
  | .tup xs, y => match y with
    | .tup ys => eqDs xs ys
    | .non | .int _ | .str _ => some false
    | _ => none
  | _, _ => none
def eqDs : List D → List D → Option Bool
  | [], [] => some true
  | x :: xs, y :: ys => opt (eqD x y) fun b => match b with
    | true => eqDs xs ys
    | false => some false
  | [], _ :: _ => some false
  | _ :: _, [] => some false
end
/-- all alike, all full tuples or none of them None or a tuple -/
def alikeOk (p : PyData) : List PyData → Bool
  | [] => true
  | q :: r => match PySem.W.alike p q && PySem.W.alike q p with
    | true => alikeOk p r
    | false => false
def alikeB : List PyData → Bool
  | [] => true
  | p :: r => match PySem.W.alike p p && alikeOk p r with
    | true => alikeB r
    | false => false
def fullT (p : PyData) : Bool := match p with
  | .tuple (_ :: _) => true
  | _ => false
def plainP (p : PyData) : Bool := match p with
  | .none => false
  | .tuple _ => false
  | _ => true
def shapedL : List PyData → Bool
  | [] => true
  | p :: r => match SeqAt.shaped p with
    | true => shapedL r
    | false => false
def fstL : List (D × PyData) → List D
  | [] => []
  | p :: r => p.1 :: fstL r
def sortC (ds : List D) : Option (List D) := opt (toPs ds) fun ps => grd (alikeB ps && (ps.all fullT || ps.all plainP) && shapedL ps && Nat.blt ps.length 5000)
  (some (fstL ((ds.zip ps).mergeSort fun a b => !PySem.W.dataLt b.2 a.2)))
def ltC (x y : D) : Option Bool := opt (toP x) fun p => opt (toP y) fun q => grd (PySem.W.alike p q && SeqAt.shaped p && SeqAt.shaped q && (match p with | .none => false | _ => true)) (some (PySem.W.dataLt p q))
def memD (x : D) : List D → Option Bool
  | [] => some false
  | y :: r => opt (eqD y x) fun b => match b with
    | true => some true
    | false => memD x r
/-- the first of each -/
def dedup : List D → List D → Option (List D)
  | [], acc => some acc.reverse
  | x :: r, acc => opt (memD x acc) fun b => match b with
    | true => dedup r acc
    | false => dedup r (x :: acc)
def dLook (k : D) : List (D × D) → Option (Option D)
  | [] => some none
  | p :: r => opt (eqD p.1 k) fun b => match b with
    | true => some (some p.2)
    | false => dLook k r
def dPut (k v : D) : List (D × D) → Option (List (D × D))
  | [] => some [(k, v)]
  | p :: r => opt (eqD p.1 k) fun b => match b with
    | true => some ((p.1, v) :: r)
    | false => opt (dPut k v r) fun q => some (p :: q)

def flatD : D → Bool
  | .non => true
  | .bl _ => true
  | .int _ => true
  | .str _ => true
  | _ => false
def flatDs : List D → Bool
  | [] => true
  | d :: r => match flatD d with
    | true => flatDs r
    | false => false
/-- == as Python asks it -/
def eqC (x y : D) : Option Bool := match flatD x && flatD y with
  | true => eqD x y
  | false => opt (toP x) fun p => opt (toP y) fun q => grd (SeqAt.shaped p && SeqAt.shaped q) (eqD x y)
/-- x in a row of data -/
def memC (x : D) (ds : List D) : Option Bool := match flatD x && flatDs ds with
  | true => memD x ds
  | false => opt (toP x) fun p => opt (toPs ds) fun q => grd (SeqAt.shaped p && SeqAt.shaped (.list q) && SeqAt.shaped (.tuple q)) (memD x ds)

def keyD : D → Option Key
  | .int i => some (.inl i)
  | .str s => some (.inr s)
  | _ => none
def isKeyD (d : D) : Bool := match d with
  | .int _ => true
  | .str _ => true
  | _ => false
def isTupD (d : D) : Bool := match d with
  | .tup _ => true
  | _ => false
def headD (f : D → Bool) (kvs : List (D × D)) : Bool := match kvs with
  | [] => true
  | p :: _ => f p.1
mutual
def nkD : D → Option NestedKey
  | .non => some .none
  | .int i => some (.num i)
  | .str s => some (.text s)
  | .tup ds => opt (nkDs ds) fun ks => some (.tup ks)
  | _ => none
def nkDs : List D → Option (List NestedKey)
  | [] => some []
  | d :: r => opt (nkD d) fun k => opt (nkDs r) fun q => some (k :: q)
end
mutual
/-- at least the key's depth -/
def depD : D → Nat
  | .tup ds => depDs ds + 1
  | _ => 1
def depDs : List D → Nat
  | [] => 0
  | d :: r => max (depD d) (depDs r)
end
def nkOk (d : D) : Bool := match nkD d with
  | some _ => Nat.ble (depD d) 8
  | none => false
/-- keys are ints and texts, or tuples -/
def okKey (kvs : List (D × D)) (k : D) : Bool := match isKeyD k with
  | true => headD isKeyD kvs
  | false => isTupD k && headD isTupD kvs && nkOk k
def dGet (k : D) (kvs : List (D × D)) : Option (Option D) := grd (okKey kvs k) (dLook k kvs)
def dSet (k v : D) (kvs : List (D × D)) : Option (List (D × D)) := grd (okKey kvs k) (dPut k v kvs)

/-! ### views -/
def asI : D → Option Int
  | .int i => some i
  | _ => none
def asB : D → Option Bool
  | .bl b => some b
  | _ => none
def asS : D → Option Str
  | .str s => some s
  | _ => none
def asT : D → Option (List D)
  | .tup ds => some ds
  | _ => none
def asL (S : Sto) : D → Option (List D)
  | .loc n => match nth S n with
    | some (.lst ds) => some ds
    | _ => none
  | _ => none
def allOf {α : Type} (f : D → Option α) : List D → Option (List α)
  | [] => some []
  | d :: r => opt (f d) fun a => opt (allOf f r) fun q => some (a :: q)
def intsD : D → Option (List Int)
  | .tup ds => allOf asI ds
  | _ => none
def in64 (i : Int) : Bool := match i with
  | .ofNat k => Nat.blt k 64
  | _ => false
def pairD : D → Option (Int × Int)
  | .tup [.int x, .int y] => grd (in64 x && in64 y) (some (x, y))
  | _ => none
def leP (p q : Int × Int) : Bool := decide (p.1 * 64 + p.2 ≤ q.1 * 64 + q.2)
def clampI (n : Nat) : Int → Nat
  | .ofNat k => match Nat.ble k n with
    | true => k
    | false => n
  | .negSucc k => n - (k + 1)
def cutL {α : Type} (xs : List α) (lo hi : Option Int) : List α :=
  let n := xs.length
  let a := match lo with | some i => clampI n i | none => 0
  let b := match hi with | some i => clampI n i | none => n
  (xs.drop a).take (b - a)
def stepIx (n : Nat) (lo hi st : Option Int) : List Nat := sliceRange (sliceBounds lo hi st n).1 (sliceBounds lo hi st n).2.1 (sliceBounds lo hi st n).2.2
def pickL {α : Type} (xs : List α) : List Nat → List α
  | [] => []
  | i :: r => match nth xs i with
    | some a => a :: pickL xs r
    | none => pickL xs r
def atL {α : Type} (xs : List α) : Int → Option α
  | .ofNat k => nth xs k
  | .negSucc k => match Nat.ble (k + 1) xs.length with
    | true => nth xs (xs.length - (k + 1))
    | false => none
def mem1 (c : Nat) : List Nat → Bool
  | [] => false
  | a :: r => match Nat.beq a c with
    | true => true
    | false => mem1 c r
def sumI : List Int → Int
  | [] => 0
  | i :: r => i + sumI r
def maxI : Int → List Int → Int
  | m, [] => m
  | m, i :: r => match decide (m < i) with
    | true => maxI i r
    | false => maxI m r
def minI : Int → List Int → Int
  | m, [] => m
  | m, i :: r => match decide (i < m) with
    | true => minI i r
    | false => minI m r
/-- below 2 ^ 62 in size -/
def i62 (i : Int) : Bool := Nat.blt i.natAbs 4611686018427387904
def i30 (i : Int) : Bool := Nat.blt i.natAbs 1073741824

/-! ### the program -/
structure Def1 where
  ps : List Str
  dfl : List D
  body : List Stmt
  scope : Scope
  N : List Str
  caps : List Str
  lam : Bool
  qual : Str
def constD : Expr → Option D
  | .Constant (.int i) _ _ => some (.int i)
  | .Constant (.bool b) _ _ => some (.bl b)
  | .Constant (.str s) _ _ => some (.str s)
  | .Constant .none _ _ => some .non
  | _ => none
def constsD : List Expr → Option (List D)
  | [] => some []
  | e :: r => opt (constD e) fun d => opt (constsD r) fun q => some (d :: q)
def argNames (a : Arguments) : List Str := a.args.map (·.arg)
/-- the own names of a scope behind the parameters -/
def ownK : NameKind → Bool
  | .local => true
  | .cell => true
  | .free => true
  | _ => false
def ownNames (ps : List Str) (sc : Scope) : List Str := (sc.names.filter fun x => ownK x.2 && !hasS x.1 ps).map (·.1)
def compSc (sc : Scope) : List Str := (sc.names.filter fun x => match x.2 with
  | .local => true
  | .cell => true
  | _ => false).map (·.1)
mutual
/-- the names that comprehensions within bind -/
def compE : Expr → List Str
  | .BoolOp _ vs _ => compEs vs
  | .BinOp l _ r _ => compE l ++ compE r
  | .UnaryOp _ x _ => compE x
  | .IfExp a b c _ => compE a ++ compE b ++ compE c
  | .Dict _ vs _ => compEs vs
  | .ListComp e gs sc _ => compE e ++ compGs gs ++ compSc sc
  | .SetComp e gs sc _ => compE e ++ compGs gs ++ compSc sc
  | .DictComp k v gs sc _ => compE k ++ compE v ++ compGs gs ++ compSc sc
  | .Compare l _ cs _ => compE l ++ compEs cs
  | .Call f as ks _ => compE f ++ compEs as ++ compKs ks
  | .FormattedValue v _ _ _ => compE v
  | .JoinedStr vs _ => compEs vs
  | .Attribute v _ _ => compE v
  | .Subscript v s _ => compE v ++ compE s
  | .Starred v _ => compE v
  | .List es _ => compEs es
  | .Tuple es _ _ => compEs es
  | .Slice a b c _ => compO a ++ compO b ++ compO c
  | _ => []
def compEs : List Expr → List Str
  | [] => []
  | e :: r => compE e ++ compEs r
def compO : Option Expr → List Str
  | none => []
  | some e => compE e
def compKs : List Keyword → List Str
  | [] => []
  | ⟨_, v, _⟩ :: r => compE v ++ compKs r
def compGs : List Comprehension → List Str
  | [] => []
  | ⟨_, i, fs, _⟩ :: r => compE i ++ compEs fs ++ compGs r
def compS : Stmt → List Str
  | .Return v _ => compO v
  | .Assign ts v _ => compEs ts ++ compE v
  | .AugAssign t _ v _ => compE t ++ compE v
  | .For t i b o _ => compE t ++ compE i ++ compSs b ++ compSs o
  | .While t b o _ => compE t ++ compSs b ++ compSs o
  | .If t b o _ => compE t ++ compSs b ++ compSs o
  | .Raise e _ _ => compO e
  | .Try b _ o f _ => compSs b ++ compSs o ++ compSs f
  | .Expr v _ => compE v
  | _ => []
def compSs : List Stmt → List Str
  | [] => []
  | s :: r => compS s ++ compSs r
end
def freeOf (sc : Scope) : List Str := (sc.names.filter fun x => match x.2 with
  | .free => true
  | _ => false).map (·.1)
mutual
/-- the lambdas of a def's body: their captured names -/
def lamE : Expr → List (List Str)
  | .BoolOp _ vs _ => lamEs vs
  | .BinOp l _ r _ => lamE l ++ lamE r
  | .IfExp a b c _ => lamE a ++ lamE b ++ lamE c
  | .Call f as ks _ => lamE f ++ lamEs as ++ lamKs ks
  | .List es _ => lamEs es
  | .Tuple es _ _ => lamEs es
  | .Lambda _ _ sc _ => [freeOf sc]
  | _ => []
def lamEs : List Expr → List (List Str)
  | [] => []
  | e :: r => lamE e ++ lamEs r
def lamKs : List Keyword → List (List Str)
  | [] => []
  | ⟨_, v, _⟩ :: r => lamE v ++ lamKs r
end
def lamS : Stmt → List (List Str)
  | .Return (some v) _ => lamE v
  | .Assign _ v _ => lamE v
  | .Expr v _ => lamE v
  | _ => []
def lamSs : List Stmt → List (List Str)
  | [] => []
  | s :: r => lamS s ++ lamSs r
def uniq : List Str → List Str → List Str
  | [], acc => acc.reverse
  | x :: r, acc => match hasS x acc with
    | true => uniq r acc
    | false => uniq r (x :: acc)
def mkDef (q : Str) (a : Arguments) (body : List Stmt) (sc : Scope) : Option Def1 := opt (constsD a.defaults) fun ds =>
  let ps := argNames a
  let ls := lamSs body
  some ⟨ps, ds, body, sc, uniq (ps ++ ownNames ps sc ++ compSs body) [], uniq ls.flatten [], !ls.isEmpty, q⟩
def plainA (a : Arguments) : Bool := match a with
  | ⟨[], _, none, [], [], none, _⟩ => true
  | _ => false
def defsOf (pre : Str) : List Stmt → List (Str × Def1)
  | [] => []
  | .FunctionDef n a b _ _ _ sc _ _ _ :: r => match plainA a with
    | true => match mkDef (pre ++ n ++ ".<locals>.") a b sc with
      | some d => (n, d) :: defsOf pre r
      | none => defsOf pre r
    | false => defsOf pre r
  | _ :: r => defsOf pre r
def clsOf : List Stmt → List (Str × List (Str × Def1))
  | [] => []
  | .ClassDef n _ _ b _ _ _ _ _ _ _ :: r => (n, defsOf (n ++ ".") b) :: clsOf r
  | _ :: r => clsOf r
def tupD : Expr → Option D
  | .Tuple es _ _ => opt (constsD es) fun ds => some (.tup ds)
  | e => constD e
def cstOf : List Stmt → List (Str × D)
  | [] => []
  | .Assign [.Name x _] v _ :: r => match eqS x "__name__", tupD v with
    | false, some d => (x, d) :: cstOf r
    | _, _ => cstOf r
  | _ :: r => cstOf r
/-- the fields that a class's methods store -/
def fldSs : List Stmt → List Str
  | [] => []
  | .Assign [.Attribute (.Name _ _) f _] _ _ :: r => f :: fldSs r
  | _ :: r => fldSs r
def fldMs : List Stmt → List Str
  | [] => []
  | .FunctionDef _ _ b _ _ _ _ _ _ _ :: r => fldSs b ++ fldMs r
  | _ :: r => fldMs r
def fldsOf : List Stmt → List (Str × List Str)
  | [] => []
  | .ClassDef n _ _ b _ _ _ _ _ _ _ :: r => (n, uniq (fldMs b) []) :: fldsOf r
  | _ :: r => fldsOf r
structure Prog1 where
  defs : List (Str × Def1)
  clss : List (Str × List (Str × Def1))
  csts : List (Str × D)
  flds : List (Str × List Str)
def mkProg (b : List Stmt) : Prog1 := ⟨defsOf "" b, clsOf b, cstOf b, fldsOf b⟩
/-- a field that the class's methods store -/
def isFld (P : Prog1) (c f : Str) : Bool := match look c P.flds with
  | some l => hasS f l
  | none => false

/-! ### binding -/
def kwGo {α : Type} (kws : List (Str × α)) (dfl : List α) : List Str → Option (List α)
  | [] => some []
  | p :: r => match look p kws with
    | some d => opt (kwGo kws dfl r) fun q => some (d :: q)
    | none => match Nat.ble (r.length + 1) dfl.length with
      | true => opt (nth dfl (dfl.length - (r.length + 1))) fun d => opt (kwGo kws dfl r) fun q => some (d :: q)
      | false => none
def nodupS : List Str → Bool
  | [] => true
  | x :: r => match hasS x r with
    | true => false
    | false => nodupS r
def kwFit {α : Type} (rest : List Str) : List (Str × α) → Bool
  | [] => true
  | p :: r => match hasS p.1 rest && !hasK p.1 r with
    | true => kwFit rest r
    | false => false
def bindD {α : Type} (ps : List Str) (dfl pos : List α) (kws : List (Str × α)) : Option (List α) :=
  grd (Nat.ble pos.length ps.length && kwFit (ps.drop pos.length) kws) (opt (kwGo kws dfl (ps.drop pos.length)) fun q => some (pos ++ q))

/-! ### the evaluator -/
inductive Fn where
  | fn (x : Str)
  | meth (c m : Str)
  | lam (l : Lam) (caps : List D)
abbrev CallT := Fn → List D → List (Str × D) → Sto → Option (D × Sto)
structure Cx1 where
  P : Prog1
  call : CallT
  N : List Str
  sc : Scope
  caps : List Str
  lam : Bool
  qual : Str
inductive Out where
  | nx | ret (d : D)
abbrev EvT := Env1 → Sto → Option (D × Sto)
abbrev SsT := Env1 → Sto → Option (Out × Env1 × Sto)
structure Ih where
  /-- told within a comprehension (true) or not -/
  e : Bool → Scope → Expr → EvT
  ss : List Stmt → SsT

def isOwn (sc : Scope) (x : Str) : Bool := match look x sc.names with
  | some k => ownK k
  | none => false
def isGlo (sc : Scope) (x : Str) : Bool := match look x sc.names with
  | some .globalImplicit => true
  | _ => false
def isLoc (sc : Scope) (x : Str) : Bool := match look x sc.names with
  | some .local => true
  | some .cell => true
  | _ => false
def getVar (N : List Str) (x : Str) (σ : Env1) : Option D := opt (findIx x N 0) fun i => match nth σ i with
  | some (some d) => some d
  | _ => none
def tyNames : List (Str × String) := [("int", "int"), ("bool", "bool"), ("tuple", "tuple"), ("str", "str")]
/-- a name of the module or of Python itself -/
def gloName (P : Prog1) (x : Str) : Option D := match look x P.csts with
  | some d => some d
  | none => match hasK x P.defs with
    | true => some (.glo x)
    | false => match hasK x P.clss with
      | true => none
      | false => opt (look x tyNames) fun T => some (.ty T)
def evName (P : Prog1) (N : List Str) (sc : Scope) (x : Str) (σ : Env1) : Option D := match isOwn sc x with
  | true => getVar N x σ
  | false => grd (isGlo sc x) (gloName P x)
/-- a name that is Python's own -/
def free1 (P : Prog1) (sc : Scope) (x : Str) : Bool := isGlo sc x && !hasK x P.defs && !hasK x P.clss && !hasK x P.csts

def new (S : Sto) (o : OD) : D × Sto := (.loc S.length, S ++ [o])
def newL (S : Sto) (ds : List D) : Option (D × Sto) := grd (small ds) (some (new S (.lst ds)))
def newT (S : Sto) (ds : List D) : Option (D × Sto) := grd (small ds) (some (.tup ds, S))

/-! ### operators -/
def repL {α : Type} : Nat → List α → List α
  | 0, _ => []
  | n + 1, l => l ++ repL n l
def addD (x y : D) (S : Sto) : Option (D × Sto) := match x with
  | .int i => opt (asI y) fun j => some (.int (i + j), S)
  | .str s => opt (asS y) fun t => grd (Nat.blt (s.cps.size + t.cps.size) 16000000) (some (.str (s ++ t), S))
  | .tup a => opt (asT y) fun b => newT S (a ++ b)
  | .loc m => opt (asL S (.loc m)) fun a => opt (asL S y) fun b => newL S (a ++ b)
  | _ => none
def mulD (x y : D) (S : Sto) : Option (D × Sto) := match x with
  | .int i => opt (asI y) fun j => grd (i62 i || i62 j) (some (.int (i * j), S))
  | .loc m => opt (asL S (.loc m)) fun a => match y with
    | .int (.ofNat k) => grd (Nat.blt k 16000000) (newL S (repL k a))
    | _ => none
  | .str s => match y with
    | .int (.ofNat k) => grd (Nat.blt k 16000000 && Nat.blt (s.cps.size * k) 16000000) (some (.str ⟨(repL k s.cps.toList).toArray⟩, S))
    | _ => none
  | _ => none
def intOp (x y : D) (S : Sto) (ok : Int → Int → Bool) (f : Int → Int → Int) : Option (D × Sto) := opt (asI x) fun i => opt (asI y) fun j => grd (ok i j) (some (.int (f i j), S))
def not0 (j : Int) : Bool := match j with
  | .ofNat 0 => false
  | _ => true
def shlOk (i j : Int) : Bool := i62 i && match j with
  | .ofNat k => Nat.ble k 1000
  | _ => false
def binD (op : Operator) (x y : D) (S : Sto) : Option (D × Sto) := match op with
  | .Add => addD x y S
  | .Mult => mulD x y S
  | .Sub => intOp x y S (fun _ _ => true) fun i j => i - j
  | .FloorDiv => intOp x y S (fun _ j => not0 j && i30 j) fun i j => i.fdiv j
  | .Mod => intOp x y S (fun _ j => not0 j) fun i j => i.fmod j
  | .BitAnd => intOp x y S (fun _ _ => true) Builtin.bitAnd
  | .BitOr => intOp x y S (fun _ _ => true) Builtin.bitOr
  | .LShift => intOp x y S shlOk fun i j => i * 2 ^ j.toNat
  | _ => none
def notO (o : Option Bool) : Option Bool := opt o fun b => some (!b)
def isN (x : D) : Bool := match x with
  | .non => true
  | _ => false
/-- x is y: y None; a bool by itself -/
def isD (x y : D) : Option Bool := match y with
  | .non => some (isN x)
  | .bl b => match x with
    | .bl c => some (b == c)
    | .non | .int _ | .str _ | .tup _ => some false
    | _ => none
  | _ => none
def inD (S : Sto) (x y : D) : Option Bool := match y with
  | .str t => opt (asS x) fun s => match s.cps.toList with
    | [c] => some (mem1 c t.cps.toList)
    | _ => none
  | .tup ds => memC x ds
  | .loc n => opt (nth S n) fun o => match o with
    | .lst ds => memC x ds
    | .dct kvs => opt (dGet x kvs) fun o => match o with
      | some _ => some true
      | none => some false
    | _ => none
  | _ => none
def intC (x y : D) (f : Int → Int → Bool) : Option Bool := opt (asI x) fun i => opt (asI y) fun j => some (f i j)
def cmpD (S : Sto) (op : CmpOp) (x y : D) : Option Bool := match op with
  | .Eq => eqC x y
  | .NotEq => notO (eqC x y)
  | .Lt => match x with
    | .int i => opt (asI y) fun j => some (decide (i < j))
    | x => ltC x y
  | .Gt => intC x y fun i j => decide (j < i)
  | .LtE => intC x y fun i j => decide (i ≤ j)
  | .GtE => intC x y fun i j => decide (j ≤ i)
  | .Is => isD x y
  | .IsNot => notO (isD x y)
  | .In => inD S x y
  | .NotIn => notO (inD S x y)
def ixD (S : Sto) (x y : D) : Option D := match x with
  | .tup ds => opt (asI y) fun i => atL ds i
  | .str s => opt (asI y) fun i => grd (okStr s) (opt (atL s.cps.toList i) fun c => some (.str ⟨#[c]⟩))
  | .loc n => opt (nth S n) fun o => match o with
    | .lst ds => opt (asI y) fun i => atL ds i
    | .dct kvs => opt (dGet y kvs) fun o => o
    | _ => none
  | _ => none
def slD (S : Sto) (x : D) (lo hi : Option Int) : Option (D × Sto) := match x with
  | .tup ds => some (.tup (cutL ds lo hi), S)
  | .str s => grd (okStr s) (some (.str ⟨(cutL s.cps.toList lo hi).toArray⟩, S))
  | .loc n => opt (asL S (.loc n)) fun ds => some (new S (.lst (cutL ds lo hi)))
  | _ => none
def tyOfD : D → Option String
  | .non => some "NoneType"
  | .bl _ => some "bool"
  | .int _ => some "int"
  | .str _ => some "str"
  | .tup _ => some "tuple"
  | _ => none
def isiT (t T : String) : Option Bool := match T with
  | "int" => match t with
    | "int" => some true
    | "bool" => some true
    | "NoneType" => some false
    | "str" => some false
    | "tuple" => some false
    | _ => none
  | "bool" => match t with
    | "bool" => some true
    | "int" => some false
    | "NoneType" => some false
    | "str" => some false
    | "tuple" => some false
    | _ => none
  | "str" => match t with
    | "str" => some true
    | "bool" => some false
    | "int" => some false
    | "NoneType" => some false
    | "tuple" => some false
    | _ => none
  | "tuple" => match t with
    | "tuple" => some true
    | "bool" => some false
    | "int" => some false
    | "NoneType" => some false
    | "str" => some false
    | _ => none
  | _ => none
def isiD (x : D) (T : String) : Option Bool := opt (tyOfD x) fun t => isiT t T
def bIsi (ds : List D) (S : Sto) : Option (D × Sto) := match ds with
  | [a, .ty T] => opt (isiD a T) fun b => some (.bl b, S)
  | _ => none
def bGcd (ds : List D) (S : Sto) : Option (D × Sto) := match ds with
  | [a, b] => opt (asI a) fun i => opt (asI b) fun j => some (.int (Nat.gcd i.natAbs j.natAbs : Nat), S)
  | _ => none

/-! ### built-ins -/
def bLen (a : D) (S : Sto) : Option (D × Sto) := match a with
  | .tup ds => some (.int ds.length, S)
  | .str s => grd (okStr s) (some (.int s.cps.size, S))
  | .loc n => opt (nth S n) fun o => match o with
    | .lst ds => some (.int ds.length, S)
    | .set ds => some (.int ds.length, S)
    | _ => none
  | _ => none
/-- the items of a list or a tuple -/
def seqOf (S : Sto) : D → Option (List D)
  | .tup ds => some ds
  | .loc n => asL S (.loc n)
  | _ => none
def bBlt1 (nm : String) (a : D) (S : Sto) : Option (D × Sto) := match nm with
  | "len" => bLen a S
  | "abs" => opt (asI a) fun i => some (.int (match decide (i < 0) with | true => -i | false => i), S)
  | "all" => opt (asL S a) fun ds => opt (allOf asB ds) fun bs => some (.bl (bs.all id), S)
  | "any" => opt (asL S a) fun ds => opt (allOf asB ds) fun bs => some (.bl (bs.any id), S)
  | "sum" => opt (seqOf S a) fun ds => opt (allOf asI ds) fun is => some (.int (sumI is), S)
  | "max" => opt (asL S a) fun ds => opt (allOf asI ds) fun is => match is with
    | i :: r => some (.int (maxI i r), S)
    | [] => none
  | "min" => opt (asL S a) fun ds => opt (allOf asI ds) fun is => match is with
    | i :: r => some (.int (minI i r), S)
    | [] => none
  | "sorted" => match a with
    | .loc n => opt (nth S n) fun o => match o with
      | .lst ds => opt (sortC ds) fun q => some (new S (.lst q))
      | .set ds => match ds with
        | [] => none
        | _ :: _ => opt (allOf pairD ds) fun ps => some (new S (.lst ((ps.mergeSort leP).map fun p => .tup [.int p.1, .int p.2])))
      | _ => none
    | .tup ds => opt (sortC ds) fun q => some (new S (.lst q))
    | _ => none
  | _ => none
def bTy1 (T : String) (a : D) (S : Sto) : Option (D × Sto) := match T with
  | "tuple" => opt (seqOf S a) fun ds => some (.tup ds, S)
  | "list" => match a with
    | .tup ds => some (new S (.lst ds))
    | .loc n => opt (nth S n) fun o => match o with
      | .lst ds => some (new S (.lst ds))
      | .dct kvs => some (new S (.lst (kvs.map (·.1))))
      | _ => none
    | _ => none
  | "int" => opt (asS a) fun s => grd (Nat.ble s.cps.size 100) (opt (PySem.intText? s) fun i => some (.int i, S))
  | "str" => opt (asI a) fun i => grd (i62 i) (some (.str (toString i), S))
  | "set" => opt (seqOf S a) fun ds => match ds with
    | [] => some (new S (.set []))
    | [d] => opt (asS d) fun _ => some (new S (.set [d]))
    | _ :: _ :: _ => opt (allOf intsD ds) fun _ => opt (dedup ds []) fun q => grd (Nat.blt ds.length 60) (some (new S (.set q)))
  | _ => none
def on1 (f : D → Sto → Option (D × Sto)) (ds : List D) (S : Sto) : Option (D × Sto) := match ds with
  | [a] => f a S
  | _ => none
/-- max of one list or of three numbers -/
def bMax (ds : List D) (S : Sto) : Option (D × Sto) := match ds with
  | [a] => bBlt1 "max" a S
  | [a, b, c] => opt (asI a) fun i => opt (asI b) fun j => opt (asI c) fun k => some (.int (maxI i [j, k]), S)
  | _ => none
inductive BltK where
  | one (nm : String) | ty (nm : String) | isi | gcd | max
def blts : List (Str × BltK) := [("isinstance", .isi), ("len", .one "len"), ("tuple", .ty "tuple"), ("abs", .one "abs"), ("all", .one "all"), ("any", .one "any"), ("sum", .one "sum"), ("max", .max), ("min", .one "min"), ("sorted", .one "sorted"),
  ("gcd", .gcd), ("list", .ty "list"), ("int", .ty "int"), ("str", .ty "str"), ("set", .ty "set")]
def bltK (b : BltK) (as : List D) (S : Sto) : Option (D × Sto) := match b with
  | .one nm => on1 (bBlt1 nm) as S
  | .ty nm => on1 (bTy1 nm) as S
  | .isi => bIsi as S
  | .gcd => bGcd as S
  | .max => bMax as S
def bltD (x : Str) (as : List D) (S : Sto) : Option (D × Sto) := opt (look x blts) fun b => bltK b as S
/-- a method of a built-in type -/
def bitLen (i : Int) : Nat := match i.natAbs with
  | 0 => 0
  | k + 1 => Nat.log2 (k + 1) + 1
def mthStr (m : Str) (s : Str) (as : List D) (S : Sto) : Option (D × Sto) := match as with
  | [a] => match eqS m "join" with
    | true => opt (asL S a) fun ds => opt (allOf asS ds) fun ss => grd (Nat.blt ((ss.map (·.length)).sum + ss.length * s.length) 16000000) (some (.str (Txt.join s ss), S))
    | false => opt (asS a) fun t => match eqS m "split" with
      | true => grd (okStr s && Nat.blt 0 t.cps.size) (some (new S (.lst ((Txt.split s t).map D.str))))
      | false => match eqS m "strip" with
        | true => grd (okStr s) (some (.str (Txt.stripChars s t), S))
        | false => none
  | _ => none
def ixOf (x : D) : List D → Nat → Option Nat
  | [], _ => none
  | y :: r, n => opt (eqD y x) fun b => match b with
    | true => some n
    | false => ixOf x r (n + 1)
inductive MK where
  | int | tup | str | lst | dct
def mkOf (S : Sto) : D → Option MK
  | .int _ => some .int
  | .tup _ => some .tup
  | .str _ => some .str
  | .loc n => opt (nth S n) fun o => match o with
    | .lst _ => some .lst
    | .dct _ => some .dct
    | _ => none
  | _ => none
def mthD (k : MK) (m : Str) (o : D) (as : List D) (S : Sto) : Option (D × Sto) := match k with
  | .int => match o, as with
    | .int i, [] => grd (eqS m "bit_length") (some (.int (bitLen i), S))
    | _, _ => none
  | .tup => match o, as with
    | .tup ds, [x] => grd (eqS m "index") (opt (toP x) fun p => opt (toPs ds) fun q => grd (SeqAt.shaped p && SeqAt.shaped (.tuple q)) (opt (ixOf x ds 0) fun k => some (.int k, S)))
    | _, _ => none
  | .str => match o with
    | .str s => mthStr m s as S
    | _ => none
  | .lst => match o with
    | .loc n => opt (asL S o) fun ds => match as with
      | [x] => grd (eqS m "append") (grd (small ds) (some (.non, setN S n (.lst (ds ++ [x])))))
      | [] => grd (eqS m "reverse") (grd (small ds) (some (.non, setN S n (.lst ds.reverse))))
      | _ => none
    | _ => none
  | .dct => match o with
    | .loc n => opt (nth S n) fun ob => match ob with
      | .dct kvs => match as with
        | [k, x] => grd (eqS m "get") (opt (dGet k kvs) fun o => match o with
          | some v => some (v, S)
          | none => some (x, S))
        | _ => none
      | _ => none
    | _ => none
def storeIx (o i v : D) (S : Sto) : Option Sto := match o with
  | .loc n => opt (nth S n) fun ob => match ob with
    | .lst ds => match i with
      | .int (.ofNat k) => grd (Nat.blt k ds.length) (some (setN S n (.lst (setN ds k v))))
      | _ => none
    | .dct kvs => opt (dSet i v kvs) fun q => grd (small q) (some (setN S n (.dct q)))
    | _ => none
  | _ => none
def storeAt (P : Prog1) (o : D) (f : Str) (v : D) (S : Sto) : Option Sto := match o with
  | .loc n => opt (nth S n) fun ob => match ob with
    | .ins c fs => grd (isFld P c f && Nat.blt fs.length 900) (some (setN S n (.ins c (put f v fs))))
    | _ => none
  | _ => none
def getAt (P : Prog1) (o : D) (f : Str) (S : Sto) : Option D := match o with
  | .loc n => opt (nth S n) fun ob => match ob with
    | .ins c fs => grd (isFld P c f) (look f fs)
    | _ => none
  | _ => none
def clsAt (S : Sto) : D → Option (Str × List (Str × D))
  | .loc n => match nth S n with
    | some (.ins c fs) => some (c, fs)
    | _ => none
  | _ => none

def sameCls (S S' : Sto) (d : D) : Bool := match clsAt S d with
  | some p => match clsAt S' d with
    | some q => eqS p.1 q.1
    | none => false
  | none => false

/-! ### what is walked -/
inductive Src where
  | tup (ds : List D)
  | lst (n : Nat)
  | str (s : Str)
  | rng (a : Int) (n : Nat)
  | zip (a b : List D)
  | enT (ds : List D)
  | enL (n : Nat)
  | fix (ds : List D)
/-- the item at a turn, or the end -/
def Src.at (S : Sto) (i : Nat) : Src → Option (Option D)
  | .tup ds => some (nth ds i)
  | .lst n => opt (asL S (.loc n)) fun ds => some (nth ds i)
  | .str s => some (match nth s.cps.toList i with
    | some c => some (.str ⟨#[c]⟩)
    | none => none)
  | .rng a n => some (match Nat.blt i n with
    | true => some (.int (a + i))
    | false => none)
  | .zip a b => some (match nth a i with
    | some x => match nth b i with
      | some y => some (.tup [x, y])
      | none => none
    | none => none)
  | .enT ds => some (match nth ds i with
    | some x => some (.tup [.int i, x])
    | none => none)
  | .enL n => opt (asL S (.loc n)) fun ds => some (match nth ds i with
    | some x => some (.tup [.int i, x])
    | none => none)
  | .fix ds => some (nth ds i)
def Src.weak : Src → Bool
  | .zip _ _ => true
  | .enT _ => true
  | .enL _ => true
  | _ => false
/-- a source by a value -/
def srcOf (S : Sto) : D → Option (Src × Sto)
  | .tup ds => some (.tup ds, S)
  | .str s => some (.str s, S)
  | .loc n => opt (nth S n) fun o => match o with
    | .lst _ => some (.lst n, S)
    | .dct kvs => match kvs with
      | [] => none
      | _ :: _ => grd (headD isTupD kvs) (some (.fix (kvs.map (·.1)), setN S n .dead))
    | _ => none
  | _ => none
def isTupE : Expr → Bool
  | .Tuple _ _ _ => true
  | _ => false

def isCallE : Expr → Bool
  | .Call _ [] [] _ => true
  | _ => false
def isSetE : Expr → Bool
  | .Set _ _ _ => true
  | _ => false
section
variable (C : Cx1) (ih : Ih)
def evs (bk : Bool) (sc : Scope) : List Expr → Env1 → Sto → Option (List D × Sto)
  | [], _, S => some ([], S)
  | e :: r, σ, S => bnd (ih.e bk sc e σ S) fun d S1 => bnd (evs bk sc r σ S1) fun ds S2 => some (d :: ds, S2)
def evKs (bk : Bool) (sc : Scope) : List Keyword → Env1 → Sto → Option (List (Str × D) × Sto)
  | [], _, S => some ([], S)
  | ⟨o, e, _⟩ :: r, σ, S => opt o fun n => bnd (ih.e bk sc e σ S) fun d S1 => bnd (evKs bk sc r σ S1) fun ds S2 => some ((n, d) :: ds, S2)
def tst (bk : Bool) (sc : Scope) (e : Expr) (σ : Env1) (S : Sto) : Option (Bool × Sto) := bnd (ih.e bk sc e σ S) fun d S1 => opt (asB d) fun b => some (b, S1)
def tsts (bk : Bool) (sc : Scope) : List Expr → Env1 → Sto → Option (Bool × Sto)
  | [], _, S => some (true, S)
  | [e], σ, S => tst ih bk sc e σ S
  | _, _, _ => none
def evBool (isAnd : Bool) (bk : Bool) (sc : Scope) : List Expr → Env1 → Sto → Option (D × Sto)
  | [], _, _ => none
  | e :: r, σ, S => match r with
    | [] => bnd (tst ih bk sc e σ S) fun b S1 => some (.bl b, S1)
    | _ :: _ => bnd (tst ih bk sc e σ S) fun b S1 => match b == isAnd with
      | true => evBool isAnd bk sc r σ S1
      | false => some (.bl b, S1)
/-- targets -/
def asgN (sc : Scope) (x : Str) (d : D) (σ : Env1) : Option Env1 := grd (isLoc sc x) (opt (findIx x C.N 0) fun i => opt (nth σ i) fun o => grd (match hasS x C.caps with
    | true => o.isNone
    | false => true) (some (setN σ i (some d))))
mutual
def asgT (sc : Scope) (S : Sto) : Nat → Expr → D → Env1 → Option Env1
  | 0, _, _, _ => none
  | f + 1, t, d, σ => match t with
    | .Name x _ => asgN C sc x d σ
    | .Tuple ts _ _ => match d with
      | .tup ds => asgTs sc S f ts ds σ
      | .loc n => opt (asL S (.loc n)) fun ds => asgTs sc S f ts ds σ
      | _ => none
    | _ => none
def asgTs (sc : Scope) (S : Sto) : Nat → List Expr → List D → Env1 → Option Env1
  | 0, _, _, _ => none
  | _ + 1, [], [], σ => some σ
  | f + 1, t :: ts, d :: ds, σ => opt (asgT sc S f t d σ) fun σ1 => asgTs sc S f ts ds σ1
  | _ + 1, _, _, _ => none
end
def evSrc (bk : Bool) (sc : Scope) (tg : Expr) (it : Expr) (σ : Env1) (S : Sto) : Option (Src × Sto) := match it with
  | .Call (.Name x _) as [] _ => match free1 C.P sc x with
    | true => match eqS x "range" with
      | true => bnd (evs ih bk sc as σ S) fun ds S1 => match ds with
        | [d] => opt (asI d) fun n => grd (i62 n) (some (.rng 0 n.toNat, S1))
        | [d, d'] => opt (asI d) fun a => opt (asI d') fun b => grd (i62 a && i62 b) (some (.rng a (b - a).toNat, S1))
        | _ => none
      | false => match eqS x "zip" with
        | true => grd (isTupE tg) (bnd (evs ih bk sc as σ S) fun ds S1 => match ds with
          | [d, d'] => opt (asT d) fun a => opt (asT d') fun b => some (.zip a b, S1)
          | _ => none)
        | false => match eqS x "enumerate" with
          | true => grd (isTupE tg) (bnd (evs ih bk sc as σ S) fun ds S1 => match ds with
            | [d] => match d with
              | .tup l => some (.enT l, S1)
              | .loc n => opt (asL S1 (.loc n)) fun _ => some (.enL n, S1)
              | _ => none
            | _ => none)
          | false => bnd (ih.e bk sc it σ S) fun d S1 => srcOf S1 d
    | false => bnd (ih.e bk sc it σ S) fun d S1 => srcOf S1 d
  | it => bnd (ih.e bk sc it σ S) fun d S1 => srcOf S1 d
/-- one clause: f at each turn that passes -/
def lcGo (sc : Scope) (tg : Expr) (ifs : List Expr) (src : Src) (f : Env1 → Sto → Option Sto) : Nat → Nat → Env1 → Sto → Option Sto
  | 0, _, _, _ => none
  | n + 1, i, σ, S => opt (src.at S i) fun o => match o with
    | none => some S
    | some d => opt (asgT C sc S 20 tg d σ) fun σ1 => bnd (tsts ih true sc ifs σ1 S) fun b S1 => match b with
      | true => opt (f σ1 S1) fun S2 => lcGo sc tg ifs src f n (i + 1) σ S2
      | false => lcGo sc tg ifs src f n (i + 1) σ S1
def wipeN (N : List Str) : List Str → Env1 → Env1
  | [], σ => σ
  | x :: r, σ => match findIx x N 0 with
    | some i => setN (wipeN N r σ) i none
    | none => wipeN N r σ
mutual
def noLam : D → Bool
  | .tup ds => noLams ds
  | .lam _ _ => false
  | _ => true
def noLams : List D → Bool
  | [] => true
  | d :: r => match noLam d with
    | true => noLams r
    | false => false
end
def noLamEnv : Env1 → Bool
  | [] => true
  | none :: r => noLamEnv r
  | some d :: r => match noLam d with
    | true => noLamEnv r
    | false => false
def noLamKv : List (D × D) → Bool
  | [] => true
  | p :: r => match noLam p.1 && noLam p.2 with
    | true => noLamKv r
    | false => false
def noLamFs : List (Str × D) → Bool
  | [] => true
  | p :: r => match noLam p.2 with
    | true => noLamFs r
    | false => false
def noLamO : OD → Bool
  | .lst ds => noLams ds
  | .set ds => noLams ds
  | .dct kvs => noLamKv kvs
  | .ins _ fs => noLamFs fs
  | .dead => true
def noLamSt : Sto → Bool
  | [] => true
  | o :: r => match noLamO o with
    | true => noLamSt r
    | false => false
def noLamSrc : Src → Bool
  | .tup ds => noLams ds
  | .zip a b => noLams a && noLams b
  | .enT ds => noLams ds
  | .fix ds => noLams ds
  | _ => true
/-- where cells may be known, no lambda stands anywhere when a comprehension starts -/
def lamFree (lam : Bool) (src : Src) (σ : Env1) (S : Sto) : Bool := match lam with
  | false => true
  | true => noLamSrc src && (noLamEnv σ && noLamSt S)
mutual
/-- a target's names -/
def tgNs : Expr → List Str
  | .Name x _ => [x]
  | .Tuple ts _ _ => tgNss ts
  | _ => []
def tgNss : List Expr → List Str
  | [] => []
  | t :: r => tgNs t ++ tgNss r
end
def tgOwn (sc : Scope) (tg : Expr) : List Str := (tgNs tg).filter fun x => isLoc sc x
def hasIx (x : Str) (N : List Str) : Bool := match findIx x N 0 with
  | some _ => true
  | none => false
/-- a comprehension's scope within sc0 -/
def blkChk (N : List Str) (sc0 sc : Scope) : Bool := (match sc.kind with | .function => true | _ => false) && sc.names.all fun y => (match look y.1 sc.names with | some k => k == y.2 | none => false) && match y.2 with
  | .free => (match look y.1 sc0.names with | some .cell => true | some .free => true | _ => false)
  | .local => hasIx y.1 N
  | .cell => hasIx y.1 N
  | _ => true
/-- the walked thing of the first clause is told in the outer scope sc0, all else in the comprehension's sc; the new object ob stands at the store's end -/
def evLc (bk : Bool) (sc0 sc : Scope) (gs : List Comprehension) (ob : OD) (f : Nat → Env1 → Sto → Option Sto) (σ : Env1) (S : Sto) : Option (D × Sto) := grd (blkChk C.N sc0 sc) (match gs with
  | [⟨tg, it, ifs, 0⟩] => bnd (evSrc C ih bk sc0 tg it σ S) fun src S1 => grd (lamFree C.lam src σ S1) (opt (lcGo C ih sc tg ifs src (f S1.length) 5000 0 (wipeN C.N (compSc sc) σ) (S1 ++ [ob])) fun S2 => some (.loc S1.length, S2))
  | [⟨tg, it, ifs, 0⟩, ⟨tg1, it1, ifs1, 0⟩] => grd (!isSetE it1) (bnd (evSrc C ih bk sc0 tg it σ S) fun src S1 => grd (lamFree C.lam src σ S1) (
    opt (lcGo C ih sc tg ifs src (fun σ1 S2 => bnd (evSrc C ih true sc tg1 it1 σ1 S2) fun src1 S3 => lcGo C ih sc tg1 ifs1 src1 (f S1.length) 5000 0 (wipeN C.N (tgOwn sc tg1) σ1) S3) 5000 0 (wipeN C.N (compSc sc) σ) (S1 ++ [ob])) fun S2 => some (.loc S1.length, S2)))
  | _ => none)
/-- the item goes to the comprehension's list -/
def lcOne (sc : Scope) (e : Expr) (n : Nat) (σ : Env1) (S : Sto) : Option Sto := bnd (ih.e true sc e σ S) fun d S1 => opt (asL S1 (.loc n)) fun acc => grd (small acc) (some (setN S1 n (.lst (acc ++ [d]))))
def lcPair (sc : Scope) (k v : Expr) (n : Nat) (σ : Env1) (S : Sto) : Option Sto := bnd (ih.e true sc k σ S) fun d S1 => bnd (ih.e true sc v σ S1) fun x S2 => grd (isKeyD d) (opt (nth S2 n) fun o => match o with
  | .dct acc => opt (dSet d x acc) fun q => grd (small q) (some (setN S2 n (.dct q)))
  | _ => none)
def lcSet (sc : Scope) (e : Expr) (n : Nat) (σ : Env1) (S : Sto) : Option Sto := bnd (ih.e true sc e σ S) fun d S1 => opt (nth S1 n) fun o => match o with
  | .set acc => grd (Nat.blt acc.length 60) (opt (intsD d) fun _ => opt (allOf intsD acc) fun _ => opt (memD d acc) fun b => match b with
    | true => some S1
    | false => some (setN S1 n (.set (acc ++ [d]))))
  | _ => none
def fmt1 (d : D) : Option Str := match d with
  | .int i => grd (i62 i) (some (toString i))
  | .str s => some s
  | _ => none
def evF (bk : Bool) (sc : Scope) : List Expr → Env1 → Sto → Option (Str × Sto)
  | [], _, S => some (Str.empty, S)
  | e :: r, σ, S => match e with
    | .Constant (.str s) _ _ => bnd (evF bk sc r σ S) fun q S1 => some (s ++ q, S1)
    | .FormattedValue v c none _ => match decide (c = -1) with
      | true => bnd (ih.e bk sc v σ S) fun d S1 => opt (fmt1 d) fun s => bnd (evF bk sc r σ S1) fun q S2 => some (s ++ q, S2)
      | false => none
    | _ => none
def evO (bk : Bool) (sc : Scope) : Option Expr → Env1 → Sto → Option (Option Int × Sto)
  | none, _, S => some (none, S)
  | some e, σ, S => bnd (ih.e bk sc e σ S) fun d S1 => opt (asI d) fun i => some (some i, S1)
def capsOf (σ : Env1) : List Str → Option (List D)
  | [] => some []
  | x :: r => grd (hasS x C.caps) (opt (getVar C.N x σ) fun d => opt (capsOf σ r) fun q => some (d :: q))
/-- a lambda without defaults; its free names are cells here -/
def lamMk (sc : Scope) (ps : Arguments) (s : Scope) : Bool := plainA ps && ps.defaults.isEmpty && s.names.all fun y => match y.2 with
  | .free => match look y.1 sc.names with
    | some .cell => true
    | _ => false
  | _ => true
def callV (f : D) (ds : List D) (S : Sto) : Option (D × Sto) := match f with
  | .lam l caps => C.call (.lam l caps) ds [] S
  | .glo g => C.call (.fn g) ds [] S
  | _ => none
def evCall (bk : Bool) (sc : Scope) (f : Expr) (as : List Expr) (ks : List Keyword) (pos : Pos) (σ : Env1) (S : Sto) : Option (D × Sto) := match f with
  | .Name x _ => match isOwn sc x with
    | true => match as, ks with
      | _ :: _, [] => opt (getVar C.N x σ) fun g => bnd (evs ih bk sc as σ S) fun ds S1 => callV C g ds S1
      | _, _ => none
    | false => grd (isGlo sc x) (match hasK x C.P.defs with
        | true => match as, ks with
          | _, [] => bnd (evs ih bk sc as σ S) fun ds S1 => C.call (.fn x) ds [] S1
          | [], _ :: _ => bnd (evKs ih bk sc ks σ S) fun kws S1 => C.call (.fn x) [] kws S1
          | _, _ => none
        | false => match look x C.P.clss with
          | some ms => match hasK "__init__" ms, as, ks with
            | true, _ :: _, [] => bnd (evs ih bk sc as σ S) fun ds S1 => bnd (C.call (.meth x "__init__") (.loc S1.length :: ds) [] (S1 ++ [.ins x []])) fun d S2 => grd (isN d) (some (.loc S1.length, S2))
            | _, _, _ => none
          | none => match hasK x C.P.csts, ks with
            | false, [] => bnd (evs ih bk sc as σ S) fun ds S1 => bltD x ds S1
            | _, _ => none)
  | .Attribute o m ap => match ks with
    | [] => grd (!isCallE o && Nat.beq ap.endLine pos.line && Nat.blt as.length 20) (bnd (ih.e bk sc o σ S) fun d S1 => match clsAt S1 d with
      | some p => grd (!hasK m p.2) (bnd (evs ih bk sc as σ S1) fun ds S2 => C.call (.meth p.1 m) (d :: ds) [] S2)
      | none => opt (mkOf S1 d) fun k => bnd (evs ih bk sc as σ S1) fun ds S2 => mthD k m d ds S2)
    | _ :: _ => none
  | _ => none
def evDict (bk : Bool) (sc : Scope) : List (Option Expr) → List Expr → Env1 → Sto → Option (List (D × D) × Sto)
  | [], [], _, S => some ([], S)
  | o :: ks, v :: vs, σ, S => opt o fun k => bnd (ih.e bk sc k σ S) fun d S1 => bnd (ih.e bk sc v σ S1) fun x S2 => bnd (evDict bk sc ks vs σ S2) fun q S3 => some ((d, x) :: q, S3)
  | _, _, _, _ => none
def keysD : List (D × D) → Bool
  | [] => true
  | p :: r => match isKeyD p.1 with
    | true => keysD r
    | false => false
def mergeD : List (D × D) → List (D × D) → Option (List (D × D))
  | acc, [] => some acc
  | acc, p :: r => opt (dSet p.1 p.2 acc) fun q => mergeD q r
def evConst (c : Const) (S : Sto) : Option (D × Sto) := match c with
  | .int i => some (.int i, S)
  | .bool b => some (.bl b, S)
  | .str s => some (.str s, S)
  | .none => some (.non, S)
  | _ => none
def evCmp (bk : Bool) (sc : Scope) (l : Expr) (ops : List CmpOp) (cs : List Expr) (σ : Env1) (S : Sto) : Option (Bool × Sto) := match ops, cs with
  | [op], [r] => bnd (ih.e bk sc l σ S) fun x S1 => bnd (ih.e bk sc r σ S1) fun y S2 => opt (cmpD S2 op x y) fun b => some (b, S2)
  | [op, op'], [r, r'] => grd (!isSetE r') (bnd (ih.e bk sc l σ S) fun x S1 => bnd (ih.e bk sc r σ S1) fun y S2 => opt (cmpD S2 op x y) fun b => match b with
    | true => bnd (ih.e bk sc r' σ S2) fun z S3 => opt (cmpD S3 op' y z) fun b' => some (b', S3)
    | false => some (false, S2))
  | _, _ => none
def evSub (bk : Bool) (sc : Scope) (a s : Expr) (σ : Env1) (S : Sto) : Option (D × Sto) := bnd (ih.e bk sc a σ S) fun x S1 => match s with
  | .Slice lo hi st _ => match st with
    | none => bnd (evO ih bk sc lo σ S1) fun i S2 => bnd (evO ih bk sc hi σ S2) fun j S3 => slD S3 x i j
    | some _ => bnd (evO ih bk sc lo σ S1) fun i S2 => bnd (evO ih bk sc hi σ S2) fun j S3 => bnd (evO ih bk sc st σ S3) fun k S4 => opt (asL S4 x) fun ds => match k with
      | some (.ofNat (c + 1)) => newL S4 (pickL ds (stepIx ds.length i j (some (.ofNat (c + 1)))))
      | _ => none
  | s => bnd (ih.e bk sc s σ S1) fun y S2 => opt (ixD S2 x y) fun d => some (d, S2)
def stepE (bk : Bool) (sc : Scope) (e : Expr) (σ : Env1) (S : Sto) : Option (D × Sto) := match e with
  | .Name x _ => opt (evName C.P C.N sc x σ) fun d => some (d, S)
  | .Constant c _ _ => evConst c S
  | .Tuple es _ _ => bnd (evs ih bk sc es σ S) fun ds S1 => newT S1 ds
  | .List es _ => bnd (evs ih bk sc es σ S) fun ds S1 => newL S1 ds
  | .Dict ks vs _ => bnd (evDict ih bk sc ks vs σ (S ++ [.dct []])) fun kvs S1 => opt (nth S1 S.length) fun o => match o with
    | .dct [] => grd (keysD kvs && Nat.ble kvs.length 15) (opt (mergeD [] kvs) fun q => some (.loc S.length, setN S1 S.length (.dct q)))
    | _ => none
  | .BinOp l op r _ => bnd (ih.e bk sc l σ S) fun x S1 => bnd (ih.e bk sc r σ S1) fun y S2 => binD op x y S2
  | .UnaryOp op a _ => match op with
    | .Not => bnd (tst ih bk sc a σ S) fun b S1 => some (.bl (!b), S1)
    | .USub => bnd (ih.e bk sc a σ S) fun x S1 => opt (asI x) fun i => some (.int (-i), S1)
    | _ => none
  | .BoolOp op vs _ => match op with
    | .And => evBool ih true bk sc vs σ S
    | .Or => evBool ih false bk sc vs σ S
  | .Compare l ops cs _ => bnd (evCmp ih bk sc l ops cs σ S) fun b S1 => some (.bl b, S1)
  | .IfExp t a b _ => bnd (tst ih bk sc t σ S) fun k S1 => match k with
    | true => ih.e bk sc a σ S1
    | false => ih.e bk sc b σ S1
  | .Subscript a s _ => evSub ih bk sc a s σ S
  | .Attribute o f _ => grd (!isCallE o) (bnd (ih.e bk sc o σ S) fun x S1 => opt (getAt C.P x f S1) fun d => some (d, S1))
  | .Call f as ks pos => evCall C ih bk sc f as ks pos σ S
  | .Lambda ps b s _ => grd (C.lam && (!bk && !C.caps.isEmpty) && lamMk sc ps s) (opt (capsOf C σ (freeOf s)) fun caps => some (.lam ⟨ps, b, s, C.qual⟩ caps, S))
  | .ListComp el gs s _ => evLc C ih bk sc s gs (.lst []) (lcOne ih s el) σ S
  | .SetComp el gs s _ => match gs with
    | [_] => evLc C ih bk sc s gs (.set []) (lcSet ih s el) σ S
    | _ => none
  | .DictComp k v gs s _ => match gs with
    | [_] => evLc C ih bk sc s gs (.dct []) (lcPair ih s k v) σ S
    | _ => none
  | .JoinedStr vs _ => match vs with
    | _ :: _ :: _ => bnd (evF ih bk sc vs σ S) fun l S1 => grd (okStr l) (some (.str l, S1))
    | _ => none
  | _ => none
def forGo (tg : Expr) (body : List Stmt) (src : Src) : Nat → Nat → SsT
  | 0, _, _, _ => none
  | n + 1, i, σ, S => opt (src.at S i) fun o => match o with
    | none => some (.nx, σ, S)
    | some d => opt (asgT C C.sc S 20 tg d σ) fun σ1 => bnd (ih.ss body σ1 S) fun o p => match o with
      | .nx => forGo tg body src n (i + 1) p.1 p.2
      | .ret r => some (.ret r, p)
def whGo (t : Expr) (body : List Stmt) : Nat → SsT
  | 0, _, _ => none
  | n + 1, σ, S => bnd (tst ih false C.sc t σ S) fun b S1 => match b with
    | true => bnd (ih.ss body σ S1) fun o p => match o with
      | .nx => whGo t body n p.1 p.2
      | .ret r => some (.ret r, p)
    | false => some (.nx, σ, S1)
def isCompE : Expr → Bool
  | .ListComp _ _ _ _ => true
  | .SetComp _ _ _ _ => true
  | .DictComp _ _ _ _ _ => true
  | _ => false
def isSetC : Expr → Bool
  | .SetComp _ _ _ _ => true
  | _ => false
def isPlain (sc : Scope) (x : Str) : Bool := match look x sc.names with
  | some .local => true
  | _ => false
def isStar : Expr → Bool
  | .Starred _ _ => true
  | _ => false
/-- two names, two values: stored from the right? -/
def swp2 (sc : Scope) (ts vs : List Expr) : Option Bool := match ts with
  | [.Name x p, .Name y q] => match vs with
    | [a, b] => match isStar a || isStar b || !(isPlain sc x && isPlain sc y && Nat.beq q.line p.line && !eqS x y) with
      | true => some false
      | false => match foldedForSure 8 a && foldedForSure 8 b with
        | true => some false
        | false => match constantsAlone 8 a && constantsAlone 8 b with
          | true => none
          | false => some true
    | _ => some false
  | [_, _] => some false
  | [_, _, _] => match vs with
    | [a, b, c] => match foldedForSure 8 a && foldedForSure 8 b && foldedForSure 8 c with
      | true => some false
      | false => none
    | _ => some false
  | _ => some false
/-- the stores of a statement are as this evaluator makes them -/
def asgOk (sc : Scope) (t v : Expr) : Bool := match t with
  | .Name _ _ => !isSetC v
  | .Tuple ts _ _ => match v with
    | .Tuple vs _ _ => match swp2 sc ts vs with
      | some _ => true
      | none => false
    | _ => true
  | _ => false
def stepS (st : Stmt) (σ : Env1) (S : Sto) : Option (Out × Env1 × Sto) := match st with
  | .Assign ts v _ => match ts with
    | [t] => bnd (ih.e false C.sc v σ S) fun d S1 => match t with
        | .Attribute o f _ => bnd (ih.e false C.sc o σ S1) fun x S2 => opt (storeAt C.P x f d S2) fun S3 => some (.nx, σ, S3)
        | .Subscript o i _ => bnd (ih.e false C.sc o σ S1) fun x S2 => bnd (ih.e false C.sc i σ S2) fun y S3 => opt (storeIx x y d S3) fun S4 => some (.nx, σ, S4)
        | t => grd (asgOk C.sc t v) (opt (asgT C C.sc S1 20 t d σ) fun σ1 => some (.nx, σ1, S1))
    | _ => none
  | .AugAssign t op v _ => match t with
    | .Attribute o f _ => match op with
      | .Add => bnd (ih.e false C.sc o σ S) fun x S1 => opt (getAt C.P x f S1) fun a => opt (asI a) fun i => bnd (ih.e false C.sc v σ S1) fun b S2 => opt (asI b) fun j => grd (sameCls S1 S2 x) (opt (storeAt C.P x f (.int (i + j)) S2) fun S4 => some (.nx, σ, S4))
      | _ => none
    | _ => none
  | .If t a b _ => bnd (tst ih false C.sc t σ S) fun k S1 => match k with
    | true => ih.ss a σ S1
    | false => ih.ss b σ S1
  | .For t it b o _ => match o with
    | [] => bnd (evSrc C ih false C.sc t it σ S) fun src S1 => forGo C ih t b src 5000 0 σ S1
    | _ :: _ => none
  | .While t b o _ => match o with
    | [] => whGo C ih t b 200 σ S
    | _ :: _ => none
  | .Return o _ => opt o fun e => bnd (ih.e false C.sc e σ S) fun d S1 => some (.ret d, σ, S1)
  | .Expr e _ => grd (!isCompE e) (bnd (ih.e false C.sc e σ S) fun _ S1 => some (.nx, σ, S1))
  | .Pass _ => some (.nx, σ, S)
  | .Try b hs o f _ => match hs, o, f with
    | [.ExceptHandler (some (.Name x _)) none _ _], [], [] => grd (isGlo C.sc x && hasK x C.P.clss) (ih.ss b σ S)
    | _, _, _ => none
  | _ => none
def stepSs : List Stmt → SsT
  | [], σ, S => some (.nx, σ, S)
  | s :: r, σ, S => bnd (stepS C ih s σ S) fun o p => match o with
    | .nx => stepSs r p.1 p.2
    | .ret d => some (.ret d, p)
end
def run (C : Cx1) : Nat → Ih
  | 0 => ⟨fun _ _ _ _ _ => none, fun _ _ _ => none⟩
  | n + 1 => ⟨stepE C (run C n), stepSs C (run C n)⟩

/-! ### calls -/
mutual
def maxLoc : D → Nat
  | .loc n => n + 1
  | .tup ds => maxLocs ds
  | .lam _ caps => maxLocs caps
  | _ => 0
def maxLocs : List D → Nat
  | [] => 0
  | d :: r => max (maxLoc d) (maxLocs r)
end
def maxO : OD → Nat
  | .lst ds => maxLocs ds
  | .set ds => maxLocs ds
  | .dct kvs => max (maxLocs (kvs.map (·.1))) (maxLocs (kvs.map (·.2)))
  | .ins _ fs => maxLocs (fs.map (·.2))
  | .dead => 0
def maxSt : Sto → Nat
  | [] => 0
  | o :: r => max (maxO o) (maxSt r)
/-- behind a call: what no one names any more is dropped -/
def cutSt (n : Nat) (d : D) (S : Sto) : Sto := match Nat.ble (maxLoc d) n with
  | false => S
  | true => match Nat.ble (maxSt (S.take n)) n with
    | true => S.take n
    | false => S
def startD (N : List Str) (ds : List D) : Env1 := ds.map some ++ List.replicate (N.length - ds.length) none
def eqNames : List Str → List Str → Bool
  | [], [] => true
  | x :: r, y :: q => match eqS x y with
    | true => eqNames r q
    | false => false
  | _, _ => false
/-- statements, then one return -/
def lastRet : List Stmt → Option (List Stmt × Expr)
  | [] => none
  | [.Return (some e) _] => some ([], e)
  | s :: r => bnd (lastRet r) fun a e => some (s :: a, e)
/-- what a def must be -/
def defOk (d : Def1) : Bool := nodupS d.N && (eqNames (d.N.take d.ps.length) d.ps) && (match d.scope.kind with | .function => true | _ => false) && !d.scope.isCoroutine && !d.scope.isGenerator && (d.ps.all fun x => isLoc d.scope x) && (d.scope.names.all fun y => match y.2 with
  | .free => false
  | _ => true) && (d.N.all fun x => !eqS x "__debug__" && !eqS x "__classdict__") && (d.caps.all fun x => match look x d.scope.names with
  | some .cell => true
  | _ => false) && (d.lam || d.caps.isEmpty) && Nat.ble d.dfl.length d.ps.length
/-- a def's body at its parameters' values -/
def callBody (P : Prog1) (call : CallT) (n : Nat) (d : Def1) (vs : List D) (S : Sto) : Option (D × Sto) :=
  let C : Cx1 := ⟨P, call, d.N, d.scope, d.caps, d.lam, d.qual⟩
  match d.lam with
  | false => bnd ((run C n).ss d.body (startD d.N vs) S) fun o p => match o with
    | .ret r => some (r, cutSt S.length r p.2)
    | .nx => some (.non, cutSt S.length .non p.2)
  | true => bnd (lastRet d.body) fun ss e => bnd ((run C n).ss ss (startD d.N vs) S) fun o p => match o with
    | .nx => bnd ((run C n).e false d.scope e p.1 p.2) fun r S1 => some (r, cutSt S.length r S1)
    | .ret _ => none
def lamN (l : Lam) : List Str := argNames l.params ++ freeOf l.scope ++ (uniq (compE l.body) []).filter fun x => !hasS x (argNames l.params ++ freeOf l.scope)
def lamOk (l : Lam) : Bool := plainA l.params && l.params.defaults.isEmpty && (match l.scope.kind with | .function => true | _ => false) && !l.scope.isCoroutine && !l.scope.isGenerator && (l.scope.names.all fun y => match y.2 with
  | .local => hasS y.1 (argNames l.params)
  | .cell => false
  | .free => match look y.1 l.scope.names with
    | some .free => true
    | _ => false
  | _ => true) && ((argNames l.params).all fun x => isPlain l.scope x) && nodupS (lamN l) && ((lamN l).all fun x => !eqS x "__debug__" && !eqS x "__classdict__")
def callLam (P : Prog1) (call : CallT) (n : Nat) (l : Lam) (caps ds : List D) (S : Sto) : Option (D × Sto) :=
  grd (lamOk l && Nat.beq ds.length (argNames l.params).length && Nat.beq caps.length (freeOf l.scope).length) (bnd ((run ⟨P, call, lamN l, l.scope, [], true, l.qual⟩ n).e false l.scope l.body (startD (lamN l) (ds ++ caps)) S) fun r S1 => some (r, cutSt S.length r S1))
/-- answered by hand: the def that raises and catches -/
def byHand (x : Str) : Option D := match eqS x "_law_empty" with
  | true => some (.str "empty")
  | false => none
def handC (P : Prog1) (x : Str) (d : D) (pos : List D) (kws : List (Str × D)) (S : Sto) : Option (D × Sto) := match pos, kws with
  | [.bl _], [] => grd (hasK x P.defs) (some (d, S))
  | _, _ => none
def noKw {α : Type} (kws : List (Str × D)) (x : Option α) : Option α := match kws with
  | [] => x
  | _ :: _ => none
def callB (P : Prog1) (n : Nat) : Nat → CallT
  | 0, _, _, _, _ => none
  | k + 1, fn, pos, kws, S => match fn with
    | .fn x => match byHand x with
      | some d => handC P x d pos kws S
      | none => opt (look x P.defs) fun d => opt (bindD d.ps d.dfl pos kws) fun vs => callBody P (callB P n k) n d vs S
    | .meth c m => opt (look c P.clss) fun ms => opt (look m ms) fun d => opt (bindD d.ps d.dfl pos kws) fun vs => callBody P (callB P n k) n d vs S
    | .lam l caps => noKw kws (callLam P (callB P n k) n l caps pos S)
end K76
end

/-! text Rel -/
section
namespace K76
open PySem PySem.Spec PyProof.Rows L2

/-! ### small things -/
theorem nth_eq {α : Type} : ∀ (l : List α) (n : Nat), nth l n = l[n]?
  | [], n => by simp [nth]
  | a :: r, 0 => by simp [nth]
  | a :: r, n + 1 => by
    show nth r n = _
    rw [nth_eq r n]
    simp
theorem setN_eq {α : Type} : ∀ (l : List α) (n : Nat) (b : α), setN l n b = l.set n b
  | [], n, b => by simp [setN]
  | a :: r, 0, b => by simp [setN]
  | a :: r, n + 1, b => by
    show a :: setN r n b = _
    rw [setN_eq r n b]
    simp
theorem eqN_iff : ∀ {a b : List Nat}, eqN a b = true ↔ a = b
  | [], [] => by simp [eqN]
  | [], _ :: _ => by simp [eqN]
  | _ :: _, [] => by simp [eqN]
  | x :: r, y :: q => by
    rw [eqN]
    cases h : Nat.beq x y with
    | true =>
      have e := Nat.eq_of_beq_eq_true h
      subst e
      show eqN r q = true ↔ _
      rw [eqN_iff, List.cons.injEq]
      exact ⟨fun e => ⟨rfl, e⟩, fun e => e.2⟩
    | false =>
      have e := Nat.ne_of_beq_eq_false h
      exact ⟨fun q => Bool.noConfusion (show false = true from q), fun q => absurd (List.cons.inj q).1 e⟩
theorem eqS_iff {a b : Str} : eqS a b = true ↔ a = b := by
  unfold eqS
  rw [eqN_iff]
  constructor
  · intro h
    cases a
    cases b
    simp only [Str.mk.injEq]
    exact Array.toList_inj.mp h
  · rintro rfl
    rfl
theorem eqS_self (a : Str) : eqS a a = true := eqS_iff.mpr rfl
theorem eqS_ne {a b : Str} (h : eqS a b = false) : a ≠ b := fun e => by rw [e, eqS_self] at h; cases h
theorem eqS_dec (a b : Str) : eqS a b = decide (a = b) := by
  cases h : eqS a b with
  | true => exact (decide_eq_true (eqS_iff.mp h)).symm
  | false => exact (decide_eq_false (eqS_ne h)).symm
theorem look_eq {α : Type} (x : Str) : ∀ l : List (Str × α), look x l = l.lookup x
  | [] => rfl
  | (y, a) :: r => by
    rw [look, List.lookup_cons]
    cases h : eqS y x with
    | true =>
      have e := eqS_iff.mp h
      subst e
      simp
    | false =>
      have e : (x == y) = false := beq_eq_false_iff_ne.mpr (Ne.symm (eqS_ne h))
      rw [e]
      exact look_eq x r
theorem hasS_iff {x : Str} : ∀ {l : List Str}, hasS x l = true ↔ x ∈ l
  | [] => by simp [hasS]
  | y :: r => by
    rw [hasS]
    cases h : eqS y x with
    | true =>
      have e := eqS_iff.mp h
      subst e
      simp
    | false =>
      have e := eqS_ne h
      show hasS x r = true ↔ _
      rw [hasS_iff, List.mem_cons]
      exact ⟨.inr, fun q => q.elim (fun z => absurd z.symm e) id⟩
theorem findIx_some {x : Str} : ∀ {l : List Str} {n i : Nat}, findIx x l n = some i → n ≤ i ∧ l[i - n]? = some x
  | [], _, _, h => by cases h
  | y :: r, n, i, h => by
    rw [findIx] at h
    cases q : eqS y x with
    | true =>
      rw [q] at h
      cases h
      exact ⟨Nat.le_refl _, by simp [eqS_iff.mp q]⟩
    | false =>
      rw [q] at h
      obtain ⟨h1, h2⟩ := findIx_some (n := n + 1) h
      refine ⟨by omega, ?_⟩
      have e : i - n = (i - (n + 1)) + 1 := by omega
      rw [e]
      simpa using h2
theorem findIx_0 {x : Str} {l : List Str} {i : Nat} (h : findIx x l 0 = some i) : l[i]? = some x := by
  have := (findIx_some h).2
  simpa using this

/-! ### data and values -/
/-- what a cell that is known holds -/
abbrev Cl := Addr → V → Prop
/-- what is the same through the whole: the written part, the module's names, the code tables -/
structure G where
  P : Program
  w : World
  K : PySem.W.Frag
  mg : Str → Option Value
  T : List (Addr × Str)
  base : Heap
def CodeNamed (oc : Obj) (q : Str) : Prop := ∃ (vs : Array Value) (t : Tok), oc.data = .fields vs ∧ vs[1]? = some (.str q t)
/-- a cell that is tracked -/
def CellT (H : Hp) (c : Addr) (v : V) : Prop := ∃ o u, H c = some (.frz o (.own 0)) ∧ o.data = .cell (some u) ∧ RelV v u
structure LamAt (H : Hp) (cl : Cl) (a : Addr) (l : Lam) (vs : List V) : Prop where
  at_ : ∃ (o : Obj) (cells : List (Str × Addr)) (c' : Addr) (oc : Obj) (pm ctv : Value) (uc : HO), H a = some (.frz o (.own 0)) ∧ o = PySem.W.kla_obj "<lambda>" (l.qual ++ "<lambda>") l.params l.body l.scope cells pm c' ctv ∧
    H c' = some (.frz oc uc) ∧ CodeNamed oc (l.qual ++ "<lambda>") ∧ (∀ x y c, cells.lookup x = some c → cells.lookup y = some c → x = y) ∧ (∀ x c, cells.lookup x = some c → x ∈ freeOf l.scope) ∧
    ∀ (i : Nat) (x : Str), (freeOf l.scope)[i]? = some x → ∃ c v, cells.lookup x = some c ∧ vs[i]? = some v ∧ (cl c v ∨ CellT H c v)
/-- a tuple whose object has no dict of its own -/
def StT (K : PySem.W.Frag) (H : Hp) (a : Addr) : Prop := (∃ o u, H a = some (.frz o u) ∧ o.dict = none) ∨ ∃ o, K.lookup a = some o ∧ o.dict = none
def SqS (K : PySem.W.Frag) (H : Hp) (a : Addr) (xs : List V) : Prop := (∃ o, H a = some (.frz o (.tup xs)) ∧ o.dict = none) ∨
  ∃ (o : Obj) (its : Array Value) (n : Nat), K.lookup a = some o ∧ o.cls = .type "tuple" ∧ o.data = .seq its n ∧ its.size ≤ sizeLine ∧ Vals xs its.toList ∧ o.dict = none
theorem SqS.sq {K : PySem.W.Frag} {H : Hp} {a : Addr} {xs : List V} (h : SqS K H a xs) : SqT K H a xs := h.elim (fun ⟨o, e, _⟩ => .inl (.inr ⟨o, e⟩)) fun ⟨o, its, n, h1, h2, h3, h4, h5, _⟩ => .inr ⟨o, its, n, h1, h2, h3, h4, h5⟩
theorem SqS.st {K : PySem.W.Frag} {H : Hp} {a : Addr} {xs : List V} (h : SqS K H a xs) : StT K H a := h.elim (fun ⟨o, e, d⟩ => .inl ⟨o, _, e, d⟩) fun ⟨o, its, n, h1, _, _, _, _, d⟩ => .inr ⟨o, h1, d⟩
theorem SqS.of {K : PySem.W.Frag} {H : Hp} {a : Addr} {xs : List V} {o : Obj} (h : H a = some (.frz o (.tup xs))) (ho : o.dict = none) : SqS K H a xs := .inl ⟨o, h, ho⟩
mutual
/-- v stands for the datum -/
def DV (g : G) (ρ : List Addr) (H : Hp) (cl : Cl) : D → V → Prop
  | .non, v => v = .non
  | .bl b, v => v = .bl b
  | .int i, v => v = .int i
  | .str s, v => v = .str s
  | .ty n, v => v = .ty n
  | .glo x, v => ∃ a, g.mg x = some (.ref a) ∧ v = .ref a
  | .tup ds, v => ∃ a vs, v = .ref a ∧ SqS g.K H a vs ∧ DVs g ρ H cl ds vs
  | .loc n, v => ∃ a, ρ[n]? = some a ∧ v = .ref a
  | .lam l caps, v => ∃ a vs, v = .ref a ∧ LamAt H cl a l vs ∧ DVs g ρ H cl caps vs
def DVs (g : G) (ρ : List Addr) (H : Hp) (cl : Cl) : List D → List V → Prop
  | [], vs => vs = []
  | d :: ds, vs => ∃ v r, vs = v :: r ∧ DV g ρ H cl d v ∧ DVs g ρ H cl ds r
end
/-- tuples and what is locked stay -/
structure Le (H H' : Hp) : Prop where
  tups : ∀ b xs, H b = some (.tup xs) → H' b = some (.tup xs)
  frzs : ∀ b o u, H b = some (.frz o u) → H' b = some (.frz o u)
theorem Le.refl (H : Hp) : Le H H := ⟨fun _ _ h => h, fun _ _ _ h => h⟩
theorem Le.trans {H H1 H2 : Hp} (a : Le H H1) (b : Le H1 H2) : Le H H2 := ⟨fun c xs h => b.tups c xs (a.tups c xs h), fun c o u h => b.frzs c o u (a.frzs c o u h)⟩
theorem Le.rd {H H' : Hp} (l : Le H H') {a : Addr} {xs : List V} (h : Rd H a (.tup xs)) : Rd H' a (.tup xs) := h.elim (fun h => .inl (l.tups _ _ h)) fun ⟨o, h⟩ => .inr ⟨o, l.frzs _ _ _ h⟩
theorem Le.sqT {K : PySem.W.Frag} {H H' : Hp} (l : Le H H') {a : Addr} {xs : List V} (h : SqT K H a xs) : SqT K H' a xs := h.elim (fun h => .inl (l.rd h)) .inr
theorem Le.sqS {K : PySem.W.Frag} {H H' : Hp} (l : Le H H') {a : Addr} {xs : List V} (h : SqS K H a xs) : SqS K H' a xs := h.elim (fun ⟨o, e, d⟩ => .inl ⟨o, l.frzs _ _ _ e, d⟩) .inr
abbrev Pre (ρ ρ' : List Addr) : Prop := ∃ r, ρ' = ρ ++ r
theorem Pre.refl (ρ : List Addr) : Pre ρ ρ := ⟨[], by simp⟩
theorem Pre.trans {a b c : List Addr} (h : Pre a b) (h' : Pre b c) : Pre a c := by
  obtain ⟨r, rfl⟩ := h
  obtain ⟨q, rfl⟩ := h'
  exact ⟨r ++ q, by simp⟩
theorem Pre.get {ρ ρ' : List Addr} (h : Pre ρ ρ') {n : Nat} {a : Addr} (e : ρ[n]? = some a) : ρ'[n]? = some a := by
  obtain ⟨r, rfl⟩ := h
  rw [List.getElem?_append_left (List.getElem?_eq_some_iff.mp e).1]
  exact e
abbrev ClLe (cl cl' : Cl) : Prop := ∀ c v, cl c v → cl' c v
theorem CellT.le {H H' : Hp} (l : Le H H') {c : Addr} {v : V} (h : CellT H c v) : CellT H' c v := by
  obtain ⟨o, u, h1, h2⟩ := h
  exact ⟨o, u, l.frzs _ _ _ h1, h2⟩
theorem LamAt.mono {H H' : Hp} {cl cl' : Cl} {a : Addr} {l : Lam} {vs : List V} (hl : Le H H') (hc : ClLe cl cl') (h : LamAt H cl a l vs) : LamAt H' cl' a l vs := by
  obtain ⟨o, cells, c', oc, pm, ctv, uc, h1, h2, h3, h4, h5, h6, h7⟩ := h.at_
  refine ⟨o, cells, c', oc, pm, ctv, uc, hl.frzs _ _ _ h1, h2, hl.frzs _ _ _ h3, h4, h5, h6, fun i x e => ?_⟩
  obtain ⟨c, v, e1, e2, e3⟩ := h7 i x e
  exact ⟨c, v, e1, e2, e3.elim (fun z => .inl (hc _ _ z)) fun z => .inr (z.le hl)⟩
section
variable {g : G} {ρ ρ' : List Addr} {H H' : Hp} {cl cl' : Cl}
mutual
theorem DV.mono (hp : Pre ρ ρ') (hl : Le H H') (hc : ClLe cl cl') : ∀ (d : D) {v : V}, DV g ρ H cl d v → DV g ρ' H' cl' d v
  | .non, _, h => h
  | .bl _, _, h => h
  | .int _, _, h => h
  | .str _, _, h => h
  | .ty _, _, h => h
  | .glo _, _, h => h
  | .tup ds, v, h => by
    obtain ⟨a, vs, h1, h2, h3⟩ := h
    exact ⟨a, vs, h1, hl.sqS h2, DVs.mono hp hl hc ds h3⟩
  | .loc n, v, h => by
    obtain ⟨a, h1, h2⟩ := h
    exact ⟨a, hp.get h1, h2⟩
  | .lam l caps, v, h => by
    obtain ⟨a, vs, h1, h2, h3⟩ := h
    exact ⟨a, vs, h1, h2.mono hl hc, DVs.mono hp hl hc caps h3⟩
theorem DVs.mono (hp : Pre ρ ρ') (hl : Le H H') (hc : ClLe cl cl') : ∀ (ds : List D) {vs : List V}, DVs g ρ H cl ds vs → DVs g ρ' H' cl' ds vs
  | [], _, h => h
  | d :: ds, vs, h => by
    obtain ⟨v, r, h1, h2, h3⟩ := h
    exact ⟨v, r, h1, DV.mono hp hl hc d h2, DVs.mono hp hl hc ds h3⟩
end
theorem DVs.length : ∀ {ds : List D} {vs : List V}, DVs g ρ H cl ds vs → ds.length = vs.length
  | [], _, h => by
    have e : _ = [] := h
    rw [e]
    rfl
  | d :: ds, _, h => by
    obtain ⟨v, r, rfl, _, h3⟩ := h
    rw [List.length_cons, List.length_cons, DVs.length h3]
theorem DVs.get : ∀ {ds : List D} {vs : List V} {i : Nat} {d : D}, DVs g ρ H cl ds vs → ds[i]? = some d → ∃ v, vs[i]? = some v ∧ DV g ρ H cl d v
  | [], _, _, _, _, e => by simp at e
  | d :: ds, _, 0, d', h, e => by
    obtain ⟨v, r, rfl, h2, _⟩ := h
    simp at e
    subst e
    exact ⟨v, by simp, h2⟩
  | d :: ds, _, i + 1, d', h, e => by
    obtain ⟨v, r, rfl, _, h3⟩ := h
    obtain ⟨w, e1, e2⟩ := DVs.get h3 (i := i) (by simpa using e)
    exact ⟨w, by simpa using e1, e2⟩
theorem DVs.nil : DVs g ρ H cl [] [] := rfl
theorem DVs.cons {d : D} {v : V} {ds : List D} {vs : List V} (h : DV g ρ H cl d v) (r : DVs g ρ H cl ds vs) : DVs g ρ H cl (d :: ds) (v :: vs) := ⟨v, vs, rfl, h, r⟩
theorem DVs.append : ∀ {ds es : List D} {vs ws : List V}, DVs g ρ H cl ds vs → DVs g ρ H cl es ws → DVs g ρ H cl (ds ++ es) (vs ++ ws)
  | [], _, _, _, h, h' => by
    have e : _ = [] := h
    rw [e]
    exact h'
  | d :: ds, _, _, _, h, h' => by
    obtain ⟨v, r, rfl, h2, h3⟩ := h
    exact ⟨v, _, rfl, h2, h3.append h'⟩
theorem DVs.take : ∀ {ds : List D} {vs : List V} (n : Nat), DVs g ρ H cl ds vs → DVs g ρ H cl (ds.take n) (vs.take n)
  | _, _, 0, _ => rfl
  | [], _, n + 1, h => by
    have e : _ = [] := h
    rw [e]
    exact rfl
  | d :: ds, _, n + 1, h => by
    obtain ⟨v, r, rfl, h2, h3⟩ := h
    exact ⟨v, _, rfl, h2, h3.take n⟩
theorem DVs.drop : ∀ {ds : List D} {vs : List V} (n : Nat), DVs g ρ H cl ds vs → DVs g ρ H cl (ds.drop n) (vs.drop n)
  | _, _, 0, h => h
  | [], _, n + 1, h => by
    have e : _ = [] := h
    rw [e]
    exact rfl
  | d :: ds, _, n + 1, h => by
    obtain ⟨v, r, rfl, _, h3⟩ := h
    exact h3.drop n
theorem DVs.set {d : D} {v : V} (hd : DV g ρ H cl d v) : ∀ {ds : List D} {vs : List V} (n : Nat), DVs g ρ H cl ds vs → DVs g ρ H cl (ds.set n d) (vs.set n v)
  | [], _, _, h => by
    have e : _ = [] := h
    rw [e]
    exact rfl
  | _ :: ds, _, 0, h => by
    obtain ⟨w, r, rfl, h2, h3⟩ := h
    exact ⟨v, r, rfl, hd, h3⟩
  | _ :: ds, _, n + 1, h => by
    obtain ⟨w, r, rfl, h2, h3⟩ := h
    exact ⟨w, _, rfl, h2, DVs.set hd n h3⟩
theorem DVs.rev {ds : List D} {vs : List V} (h : DVs g ρ H cl ds vs) : DVs g ρ H cl ds.reverse vs.reverse := by
  induction ds generalizing vs with
  | nil =>
    have e : _ = [] := h
    rw [e]
    exact rfl
  | cons d ds ih =>
    obtain ⟨v, r, rfl, h2, h3⟩ := h
    rw [List.reverse_cons, List.reverse_cons]
    exact (ih h3).append ⟨v, [], rfl, h2, rfl⟩
end
end K76
end

/-! text Rel2 -/
section
namespace K76
open PySem PySem.Spec PyProof.Rows L2

/-! ### the store -/
section
variable (g : G) (ρ : List Addr) (H : Hp) (cl : Cl)
/-- pairs: names and values -/
def FsR : List (Str × D) → List (Str × V) → Prop
  | [], fs => fs = []
  | p :: r, fs => ∃ v q, fs = (p.1, v) :: q ∧ DV g ρ H cl p.2 v ∧ FsR r q
/-- a dict of ints and texts -/
def KvR : List (D × D) → List (Key × V) → Prop
  | [], ks => ks = []
  | p :: r, ks => ∃ k v q, ks = (k, v) :: q ∧ keyD p.1 = some k ∧ DV g ρ H cl p.2 v ∧ KvR r q
/-- a dict whose keys are tuples, nested -/
def NvR : List (D × D) → List (NestedKey × Addr × Value) → Prop
  | [], xs => xs = []
  | p :: r, xs => ∃ nk ka u v q, xs = (nk, ka, u) :: q ∧ isTupD p.1 = true ∧ nkD p.1 = some nk ∧ nk.depth ≤ 8 ∧ DV g ρ H cl p.1 (.ref ka) ∧ RelV v u ∧ DV g ρ H cl p.2 v ∧ NvR r q
abbrev DictO (a : Addr) (o : Obj) : HO := .ext fun h => h.get? a = some o
def DictN (kvs : List (D × D)) (a : Addr) : Prop := ∃ o es ep xs, H a = some (DictO a o) ∧ (a == sysModules) = false ∧ kvs.length ≤ sizeLine ∧ o.ExactDict ∧ o.data = .dict es ep ∧ es.toList = xs.map (entryOfKey (nestedKind g.P g.w)) ∧
  (xs.map (·.1)).Nodup ∧ NvR g ρ H cl kvs xs
/-- a set by its object -/
structure SetN (ds : List D) (a : Addr) (o : Obj) (es : Array (Int × Value)) (ep : Nat) (t : SetTable) : Prop where
  at_ : H a = some (DictO a o)
  ex : o.ExactSet
  dat : o.data = .set es ep t
  fits : t.fits es.size = true
  size : es.size = ds.length
  few : es.size < 64
  info : (ds ≠ [] ∧ ∀ d ∈ ds, ∃ z, d = .str z) ∨ ∃ (L : List (Addr × List Int)) (ks : List (List Int)), allOf intsD ds = some ks ∧ ks.Perm (L.map (·.2)) ∧ (∀ p ∈ L, SqS g.K H p.1 (p.2.map V.int)) ∧ es.toList = rowsOf g.P g.w L ∧
    TabOk t (L.map fun p => thash g.P g.w p.2) ∧ (L.map (·.2)).Nodup ∧ t.plain = true ∧ (g.w.params.followText "set-order" = true ∨ t.led = true) ∧ L.length * 5 < t.mask * 3
def OR : OD → Addr → Prop
  | .lst ds, a => ∃ vs, H a = some (.lst vs) ∧ DVs g ρ H cl ds vs
  | .dct kvs, a => (headD isKeyD kvs = true ∧ ∃ ks, H a = some (.dK ks) ∧ (ks.map (·.1)).Nodup ∧ KvR g ρ H cl kvs ks) ∨ (kvs ≠ [] ∧ DictN g ρ H cl kvs a)
  | .set ds, a => ∃ o es ep t, SetN g H ds a o es ep t
  | .ins c fs, a => ∃ C dx fvs, g.mg c = some (.ref C) ∧ H a = some (.ins C dx fvs) ∧ FsR g ρ H cl fs fvs
  | .dead, a => ∃ o u es ep, H a = some (.frz o u) ∧ o.data = .dict es ep
end
/-- a code table: its code objects bear the name q -/
def TabF (H : Hp) (P : Addr) (q : Str) : Prop := ∃ ps : Array Value, H P = some (.tbl ps) ∧ TriplesOk ps.toList ∧ ∀ (pos : Pos) (cv : Value), codeAmong pos ps.toList = some cv → ∃ c oc uc, cv = .ref c ∧ H c = some (.frz oc uc) ∧ CodeNamed oc q
def Tabs (g : G) (H : Hp) : Prop := ∀ p ∈ g.T, TabF H p.1 p.2
structure Rel (g : G) (cl : Cl) (ρ : List Addr) (S : Sto) (H : Hp) : Prop where
  len : ρ.length = S.length
  nd : ρ.Nodup
  sto : ∀ (n : Nat) (o : OD) (a : Addr), S[n]? = some o → ρ[n]? = some a → OR g ρ H cl o a
  tab : Tabs g H
/-- the names' values -/
structure EnvR (g : G) (cl : Cl) (ρ : List Addr) (H : Hp) (σd : Env1) (σ : L2.St) : Prop where
  len : σd.length = σ.length
  at_ : ∀ (i : Nat) (d : D), σd[i]? = some (some d) → ∃ v, σ[i]? = some (some v) ∧ DV g ρ H cl d v

section
variable {g : G} {ρ ρ' : List Addr} {H H' : Hp} {cl cl' : Cl} {S : Sto} {σd : Env1} {σ : L2.St}
theorem FsR.mono (hp : Pre ρ ρ') (hl : Le H H') (hc : ClLe cl cl') : ∀ {fs : List (Str × D)} {vs : List (Str × V)}, FsR g ρ H cl fs vs → FsR g ρ' H' cl' fs vs
  | [], _, h => h
  | p :: r, _, h => by
    obtain ⟨v, q, rfl, h2, h3⟩ := h
    exact ⟨v, q, rfl, h2.mono hp hl hc, h3.mono hp hl hc⟩
theorem KvR.mono (hp : Pre ρ ρ') (hl : Le H H') (hc : ClLe cl cl') : ∀ {fs : List (D × D)} {vs : List (Key × V)}, KvR g ρ H cl fs vs → KvR g ρ' H' cl' fs vs
  | [], _, h => h
  | p :: r, _, h => by
    obtain ⟨k, v, q, rfl, hk, h2, h3⟩ := h
    exact ⟨k, v, q, rfl, hk, h2.mono hp hl hc, h3.mono hp hl hc⟩
theorem NvR.mono (hp : Pre ρ ρ') (hl : Le H H') (hc : ClLe cl cl') : ∀ {fs : List (D × D)} {xs : List (NestedKey × Addr × Value)}, NvR g ρ H cl fs xs → NvR g ρ' H' cl' fs xs
  | [], _, h => h
  | p :: r, _, h => by
    obtain ⟨nk, ka, u, v, q, rfl, h0, h1, h2, h3, h4, h5, h6⟩ := h
    exact ⟨nk, ka, u, v, q, rfl, h0, h1, h2, h3.mono hp hl hc, h4, h5.mono hp hl hc, h6.mono hp hl hc⟩
theorem EnvR.mono (hp : Pre ρ ρ') (hl : Le H H') (hc : ClLe cl cl') (E : EnvR g cl ρ H σd σ) : EnvR g cl' ρ' H' σd σ :=
  ⟨E.len, fun i d e => let ⟨v, h1, h2⟩ := E.at_ i d e; ⟨v, h1, h2.mono hp hl hc⟩⟩
/-- an object that stays as it is -/
theorem OR.mono (hp : Pre ρ ρ') (hl : Le H H') (hc : ClLe cl cl') {a : Addr} (ha : H' a = H a) : ∀ {o : OD}, OR g ρ H cl o a → OR g ρ' H' cl' o a
  | .lst ds, ⟨vs, h1, h2⟩ => ⟨vs, ha.trans h1, h2.mono hp hl hc⟩
  | .dct kvs, .inl ⟨h0, ks, h1, hn, h2⟩ => .inl ⟨h0, ks, ha.trans h1, hn, h2.mono hp hl hc⟩
  | .dct kvs, .inr ⟨h0, o, es, ep, xs, h1, h2, h3, h4, h5, h6, h7, h8⟩ => .inr ⟨h0, o, es, ep, xs, ha.trans h1, h2, h3, h4, h5, h6, h7, h8.mono hp hl hc⟩
  | .set ds, ⟨o, es, ep, t, h⟩ => ⟨o, es, ep, t, ⟨ha.trans h.at_, h.ex, h.dat, h.fits, h.size, h.few, h.info.elim .inl fun ⟨L, ks, a1, a2, a3, a4⟩ => .inr ⟨L, ks, a1, a2, fun p hp => hl.sqS (a3 p hp), a4⟩⟩⟩
  | .ins c fs, ⟨C, dx, fvs, h0, h1, h2⟩ => ⟨C, dx, fvs, h0, ha.trans h1, h2.mono hp hl hc⟩
  | .dead, ⟨o, u, es, ep, h, hd⟩ => ⟨o, u, es, ep, ha.trans h, hd⟩
theorem OR.some : ∀ {o : OD} {a : Addr}, OR g ρ H cl o a → ∃ u, H a = some u
  | .lst ds, _, ⟨vs, h1, _⟩ => ⟨_, h1⟩
  | .dct kvs, _, .inl ⟨_, ks, h1, _⟩ => ⟨_, h1⟩
  | .dct kvs, _, .inr ⟨_, o, es, ep, xs, h1, _⟩ => ⟨_, h1⟩
  | .set _, _, ⟨o, es, ep, t, h⟩ => ⟨_, h.at_⟩
  | .ins c fs, _, ⟨C, dx, fvs, _, h1, _⟩ => ⟨_, h1⟩
  | .dead, _, ⟨o, u, _, _, h, _⟩ => ⟨_, h⟩
theorem Rel.addr (R : Rel g cl ρ S H) {n : Nat} {o : OD} (e : S[n]? = some o) : ∃ a, ρ[n]? = some a ∧ OR g ρ H cl o a := by
  have hn : n < ρ.length := by rw [R.len]; exact (List.getElem?_eq_some_iff.mp e).1
  exact ⟨ρ[n], List.getElem?_eq_getElem hn, R.sto n o _ e (List.getElem?_eq_getElem hn)⟩
theorem Rel.mem (R : Rel g cl ρ S H) {a : Addr} (h : a ∈ ρ) : ∃ u, H a = some u := by
  obtain ⟨n, hn, rfl⟩ := List.mem_iff_getElem.mp h
  have hs : n < S.length := by rw [← R.len]; exact hn
  exact (R.sto n S[n] ρ[n] (List.getElem?_eq_getElem hs) (List.getElem?_eq_getElem hn)).some
/-- growth at a new address -/
theorem le_new {p : Addr} {o : HO} (hp : H p = none) : Le H (upd H p o) := ⟨fun b xs h => by rw [upd_ne (ne_of_none h hp)]; exact h, fun b ob u h => by rw [upd_ne (ne_of_none h hp)]; exact h⟩
theorem le_write {p : Addr} {o u : HO} (hp : H p = Option.some u) (hm : Mut (Option.some u)) : Le H (upd H p o) := by
  refine ⟨fun b xs h => ?_, fun b ob v h => ?_⟩
  · rw [upd_ne]
    · exact h
    · rintro rfl
      rw [hp] at h
      cases h
      exact hm
  · rw [upd_ne]
    · exact h
    · rintro rfl
      rw [hp] at h
      cases h
      exact hm
theorem Tabs.step (T : Tabs g H) (hl : Le H H') (ht : ∀ b ps, H b = Option.some (.tbl ps) → H' b = Option.some (.tbl ps)) : Tabs g H' := fun p hp => by
  obtain ⟨ps, h1, h2, h3⟩ := T p hp
  refine ⟨ps, ht _ _ h1, h2, fun pos cv e => ?_⟩
  obtain ⟨c, oc, uc, e1, e2, e3⟩ := h3 pos cv e
  exact ⟨c, oc, uc, e1, hl.frzs _ _ _ e2, e3⟩
theorem tbl_new {p : Addr} {o : HO} (hp : H p = none) : ∀ b ps, H b = Option.some (.tbl ps) → upd H p o b = Option.some (.tbl ps) := fun b ps h => by rw [upd_ne (ne_of_none h hp)]; exact h
theorem tbl_write {p : Addr} {o u : HO} (hp : H p = Option.some u) (hm : Mut (Option.some u)) : ∀ b ps, H b = Option.some (.tbl ps) → upd H p o b = Option.some (.tbl ps) := fun b ps h => by
  rw [upd_ne]
  · exact h
  · rintro rfl
    rw [hp] at h
    cases h
    exact hm
/-- something new that is no place of the store -/
theorem Rel.new (R : Rel g cl ρ S H) {p : Addr} {o : HO} (hp : H p = none) : Rel g cl ρ S (upd H p o) := by
  refine ⟨R.len, R.nd, fun n ob a e1 e2 => ?_, R.tab.step (le_new hp) (tbl_new hp)⟩
  have h := R.sto n ob a e1 e2
  obtain ⟨u, hu⟩ := h.some
  exact h.mono (Pre.refl _) (le_new hp) (fun _ _ z => z) (upd_ne (ne_of_none hu hp))
/-- a new place of the store -/
theorem Rel.push (R : Rel g cl ρ S H) {p : Addr} {o : HO} {od : OD} (hp : H p = none) (ho : OR g (ρ ++ [p]) (upd H p o) cl od p) : Rel g cl (ρ ++ [p]) (S ++ [od]) (upd H p o) := by
  have np : p ∉ ρ := fun h => by
    obtain ⟨u, hu⟩ := R.mem h
    rw [hp] at hu
    cases hu
  refine ⟨by rw [List.length_append, List.length_append, R.len] <;> rfl, ?_, fun n ob a e1 e2 => ?_, R.tab.step (le_new hp) (tbl_new hp)⟩
  · rw [List.nodup_append]
    exact ⟨R.nd, by simp, fun a ha b hb e => np (by
      have : b = p := by simpa using hb
      rw [← this, ← e]
      exact ha)⟩
  · by_cases hn : n < S.length
    · rw [List.getElem?_append_left hn] at e1
      rw [List.getElem?_append_left (by rw [R.len]; exact hn)] at e2
      have h := R.sto n ob a e1 e2
      obtain ⟨u, hu⟩ := h.some
      exact h.mono ⟨[p], rfl⟩ (le_new hp) (fun _ _ z => z) (upd_ne (ne_of_none hu hp))
    · have hn2 : n = S.length := by
        have := (List.getElem?_eq_some_iff.mp e1).1
        rw [List.length_append, List.length_singleton] at this
        omega
      subst hn2
      rw [List.getElem?_append_right (Nat.le_refl _), Nat.sub_self] at e1
      rw [List.getElem?_append_right (by rw [R.len]; exact Nat.le_refl _), R.len, Nat.sub_self] at e2
      simp only [List.getElem?_cons_zero, Option.some.injEq] at e1 e2
      subst e1
      subst e2
      exact ho
/-- a place of the store is written -/
theorem Rel.set (R : Rel g cl ρ S H) {n : Nat} {a : Addr} {o u : HO} {od : OD} (e : ρ[n]? = some a) (hu : H a = Option.some u) (hm : Mut (Option.some u)) (ho : OR g ρ (upd H a o) cl od a) : Rel g cl ρ (S.set n od) (upd H a o) := by
  refine ⟨by rw [List.length_set]; exact R.len, R.nd, fun m ob b e1 e2 => ?_, R.tab.step (le_write hu hm) (tbl_write hu hm)⟩
  by_cases hmn : m = n
  · subst hmn
    rw [e] at e2
    cases e2
    have hlt : m < S.length := by rw [← R.len]; exact (List.getElem?_eq_some_iff.mp e).1
    rw [List.getElem?_set_self hlt] at e1
    cases e1
    exact ho
  · rw [List.getElem?_set_ne (Ne.symm hmn)] at e1
    have h := R.sto m ob b e1 e2
    have hba : b ≠ a := by
      rintro rfl
      obtain ⟨h1, x1⟩ := List.getElem?_eq_some_iff.mp e
      obtain ⟨h2, x2⟩ := List.getElem?_eq_some_iff.mp e2
      exact hmn ((List.getElem_inj R.nd).mp (x2.trans x1.symm))
    exact h.mono (Pre.refl _) (le_write hu hm) (fun _ _ z => z) (upd_ne hba)
/-- other knowledge of cells -/
theorem Rel.clm (R : Rel g cl ρ S H) (hc : ClLe cl cl') : Rel g cl' ρ S H := ⟨R.len, R.nd, fun n o a e1 e2 => (R.sto n o a e1 e2).mono (Pre.refl _) (Le.refl _) hc rfl, R.tab⟩
end

/-! ### readings -/
/-- what is related at a point: the state of a def's body or of a comprehension's block -/
structure Sim (g : G) (cl : Cl) (ρ : List Addr) (S : Sto) (H : Hp) (σd : Env1) (σ : L2.St) : Prop where
  rel : Rel g cl ρ S H
  env : EnvR g cl ρ H σd σ
/-- the cells of one's own names in caps that are set, and those known at the entry -/
def clOf (X : Cx) (cl0 : Cl) (caps : List Str) (σd : Env1) (σ : L2.St) : Cl := fun c v => cl0 c v ∨ ∃ (x : Str) (i : Nat) (d : D), x ∈ caps ∧ X.env.cells.lookup x = some c ∧ X.N[i]? = some x ∧ σd[i]? = some (some d) ∧ σ[i]? = some (some v)
def tE (g : G) (cl : Env1 → L2.St → Cl) (f : EvT) : TE := fun σ H Q => ∃ ρ σd S d S1, Sim g (cl σd σ) ρ S H σd σ ∧ f σd S = some (d, S1) ∧
  ∀ ρ' H' v, Pre ρ ρ' → Le H H' → Sim g (cl σd σ) ρ' S1 H' σd σ → DV g ρ' H' (cl σd σ) d v → Q v H'
def tT (g : G) (cl : Env1 → L2.St → Cl) (f : Env1 → Sto → Option (Bool × Sto)) : TT := fun σ H Q => ∃ ρ σd S d S1, Sim g (cl σd σ) ρ S H σd σ ∧ f σd S = some (d, S1) ∧
  ∀ ρ' H', Pre ρ ρ' → Le H H' → Sim g (cl σd σ) ρ' S1 H' σd σ → Q d H'
def tA (g : G) (cl : Env1 → L2.St → Cl) (f : Env1 → Sto → Option (List D × Sto)) : TA := fun σ H Q => ∃ ρ σd S d S1, Sim g (cl σd σ) ρ S H σd σ ∧ f σd S = some (d, S1) ∧
  ∀ ρ' H' vs, Pre ρ ρ' → Le H H' → Sim g (cl σd σ) ρ' S1 H' σd σ → DVs g ρ' H' (cl σd σ) d vs → Q vs H'
theorem PE.imp {X : Cx} {e : Expr} {t t' : TE} (h : PE X e t) (i : ∀ σ H Q, t' σ H Q → t σ H Q) : PE X e t' := ⟨fun pins s σ H Q I q => h.run pins s σ H Q I (i _ _ _ q)⟩
theorem PT.imp {X : Cx} {e : Expr} {t t' : TT} (h : PT X e t) (i : ∀ σ H Q, t' σ H Q → t σ H Q) : PT X e t' := ⟨fun pins s σ H Q I q => h.run pins s σ H Q I (i _ _ _ q)⟩
theorem PA.imp {X : Cx} {e : List Expr} {t t' : TA} (h : PA X e t) (i : ∀ σ H Q, t' σ H Q → t σ H Q) : PA X e t' := ⟨fun p pins s σ H Q I q => h.run p pins s σ H Q I (i _ _ _ q)⟩
section
variable {g : G} {ρ ρ' : List Addr} {H H' : Hp} {cl : Cl} {S S' : Sto} {σd : Env1} {σ : L2.St}
theorem Sim.new (M : Sim g cl ρ S H σd σ) {p : Addr} {o : HO} (hp : H p = none) : Sim g cl ρ S (upd H p o) σd σ := ⟨M.rel.new hp, M.env.mono (Pre.refl _) (le_new hp) fun _ _ z => z⟩
theorem Sim.push (M : Sim g cl ρ S H σd σ) {p : Addr} {o : HO} {od : OD} (hp : H p = none) (ho : OR g (ρ ++ [p]) (upd H p o) cl od p) : Sim g cl (ρ ++ [p]) (S ++ [od]) (upd H p o) σd σ :=
  ⟨M.rel.push hp ho, M.env.mono ⟨[p], rfl⟩ (le_new hp) fun _ _ z => z⟩
theorem Sim.set (M : Sim g cl ρ S H σd σ) {n : Nat} {a : Addr} {o u : HO} {od : OD} (e : ρ[n]? = some a) (hu : H a = some u) (hm : Mut (some u)) (ho : OR g ρ (upd H a o) cl od a) : Sim g cl ρ (S.set n od) (upd H a o) σd σ :=
  ⟨M.rel.set e hu hm ho, M.env.mono (Pre.refl _) (le_write hu hm) fun _ _ z => z⟩
/-- the result of an operation by values: an unchanged place, or a new tuple, or a new list -/
structure Fin (g : G) (cl : Cl) (ρ : List Addr) (H : Hp) (σd : Env1) (σ : L2.St) (d : D) (S1 : Sto) (Q : VK) : Prop where
  go : ∀ ρ' H' v, Pre ρ ρ' → Le H H' → Sim g cl ρ' S1 H' σd σ → DV g ρ' H' cl d v → Q v H'
theorem Fin.same {d : D} {Q : VK} (F : Fin g cl ρ H σd σ d S Q) (M : Sim g cl ρ S H σd σ) {v : V} (h : DV g ρ H cl d v) : Q v H := F.go ρ H v (Pre.refl _) (Le.refl _) M h
theorem Fin.tup {ds : List D} {Q : VK} (F : Fin g cl ρ H σd σ (.tup ds) S Q) (M : Sim g cl ρ S H σd σ) {vs : List V} (h : DVs g ρ H cl ds vs) {p : Addr} {o : Obj} (hp : H p = none) (ho : o.dict = none) : Q (.ref p) (upd H p (.frz o (.tup vs))) :=
  F.go ρ _ _ (Pre.refl _) (le_new hp) (M.new hp) ⟨p, vs, rfl, SqS.of upd_same ho, h.mono (Pre.refl _) (le_new hp) fun _ _ z => z⟩
theorem Fin.lst {ds : List D} {Q : VK} (F : Fin g cl ρ H σd σ (.loc S.length) (S ++ [.lst ds]) Q) (M : Sim g cl ρ S H σd σ) {vs : List V} (h : DVs g ρ H cl ds vs) {p : Addr} (hp : H p = none) : Q (.ref p) (upd H p (.lst vs)) := by
  refine F.go (ρ ++ [p]) _ _ ⟨[p], rfl⟩ (le_new hp) (M.push hp ⟨vs, upd_same, h.mono ⟨[p], rfl⟩ (le_new hp) fun _ _ z => z⟩) ⟨p, ?_, rfl⟩
  rw [List.getElem?_append_right (by rw [M.rel.len]; exact Nat.le_refl _), M.rel.len, Nat.sub_self]
  rfl
theorem Fin.lst' {ds : List D} {Q : VK} {r : D × Sto} (F : Fin g cl ρ H σd σ r.1 r.2 Q) (e : r = K76.new S (.lst ds)) (M : Sim g cl ρ S H σd σ) {vs : List V} (h : DVs g ρ H cl ds vs) {p : Addr} (hp : H p = none) : Q (.ref p) (upd H p (.lst vs)) := by
  subst e
  exact Fin.lst F M h hp
/-- a list of the store -/
theorem Sim.lstAt (M : Sim g cl ρ S H σd σ) {n : Nat} {ds : List D} (e : asL S (.loc n) = some ds) : ∃ a vs, ρ[n]? = some a ∧ H a = some (.lst vs) ∧ DVs g ρ H cl ds vs := by
  have e : (match nth S n with
    | some (.lst ds) => some ds
    | _ => none) = some ds := e
  rw [nth_eq] at e
  split at e
  · rename_i xs h
    cases e
    obtain ⟨a, h1, vs, h2, h3⟩ := M.rel.addr h
    exact ⟨a, vs, h1, h2, h3⟩
  · cases e
theorem asL_loc {S : Sto} {d : D} {ds : List D} (h : asL S d = some ds) : ∃ n, d = .loc n := by
  cases d <;> first | exact ⟨_, rfl⟩ | cases h
theorem Sim.lst (M : Sim g cl ρ S H σd σ) {d : D} {v : V} {ds : List D} (h : DV g ρ H cl d v) (e : asL S d = some ds) : ∃ n a vs, d = .loc n ∧ ρ[n]? = some a ∧ v = .ref a ∧ H a = some (.lst vs) ∧ DVs g ρ H cl ds vs := by
  obtain ⟨n, rfl⟩ := asL_loc e
  obtain ⟨a, vs, h1, h2, h3⟩ := M.lstAt e
  obtain ⟨b, h4, h5⟩ := h
  rw [h1] at h4
  cases h4
  exact ⟨n, a, vs, rfl, h1, h5, h2, h3⟩
theorem asI_some {d : D} {i : Int} (h : asI d = some i) : d = .int i := by
  cases d <;> simp [asI] at h
  rw [h]
theorem asB_some {d : D} {i : Bool} (h : asB d = some i) : d = .bl i := by
  cases d <;> simp [asB] at h
  rw [h]
theorem asS_some {d : D} {i : Str} (h : asS d = some i) : d = .str i := by
  cases d <;> simp [asS] at h
  rw [h]
theorem asT_some {d : D} {i : List D} (h : asT d = some i) : d = .tup i := by
  cases d <;> simp [asT] at h
  rw [h]
theorem DV.int {d : D} {i : Int} {v : V} (e : asI d = some i) (h : DV g ρ H cl d v) : v = .int i := by
  rw [asI_some e] at h
  exact h
theorem DV.bl {d : D} {i : Bool} {v : V} (e : asB d = some i) (h : DV g ρ H cl d v) : v = .bl i := by
  rw [asB_some e] at h
  exact h
theorem DV.str {d : D} {i : Str} {v : V} (e : asS d = some i) (h : DV g ρ H cl d v) : v = .str i := by
  rw [asS_some e] at h
  exact h
theorem DV.tup {d : D} {i : List D} {v : V} (e : asT d = some i) (h : DV g ρ H cl d v) : ∃ a vs, v = .ref a ∧ SqS g.K H a vs ∧ DVs g ρ H cl i vs := by
  rw [asT_some e] at h
  exact h
theorem small_le {α : Type} {l : List α} (h : small l = true) : l.length < 16000000 := by
  unfold small at h
  exact Nat.lt_of_succ_le (Nat.le_of_ble_eq_true h)
theorem line16 {n : Nat} (h : n < 16000000) : n ≤ sizeLine := by rw [sizeLine_eq]; omega
theorem line16' {n : Nat} (h : n < 16000000) : n < sizeLine := by rw [sizeLine_eq]; omega
end
end K76
end

/-! text Stg -/
section
namespace K76
open PySem PySem.Spec PyProof.Rows L2
/-! ### new tuples, by their objects -/
section
variable {X : Cx} {pins : List (Addr × Obj)} {σ : L2.St} {H : Hp} {s : Shared}
/-- a new tuple's object is known -/
theorem Inv.newTup {xs : List V} {us : List Value} (I : Inv X pins σ H s) (r : Vals xs us) (hz : xs.length ≤ sizeLine) :
    Inv X pins σ (upd H s.heap.objs.size (.frz { cls := .type "tuple", data := .seq us.toArray } (.tup xs))) { s with heap := s.heap.push { cls := .type "tuple", data := .seq us.toArray } } :=
  I.laid (t' := s.toks) (fun b u e => Heap.get?_push_of_some _ e) (Nat.le_refl _) ⟨Heap.get?_push_size _ rfl, hz, us, r, IsTup.new _ _⟩
theorem Inv.fr0 (I : Inv X pins σ H s) : H s.heap.objs.size = none := I.hok.fresh (Nat.le_refl _)
end
section
variable {X : Cx} {es : List Expr} {pos : Pos}
/-- (a, b, ..) -/
def tTupS (t : TA) : TE := fun σ H Q => t σ H fun xs H1 => xs.length ≤ sizeLine ∧ ∀ p o, H1 p = none → Obj.dict o = none → Q (.ref p) (upd H1 p (.frz o (.tup xs)))
theorem pe_tupS {x1 : Nat} {t : TA} (h : PA X es t) : PE X (.Tuple es x1 pos) (tTupS t) := by
  refine ⟨fun pins s σ H Q I hq => ?_⟩
  refine wpAny_Tuple_spliced (thn (h.run pos pins s σ H _ I hq) fun us s1 ⟨xs, H1, J, r, z, q⟩ => ⟨by rw [← r.length]; exact z, ?_⟩)
  exact ⟨.ref s1.heap.objs.size, _, K76.Inv.newTup J r z, rfl, q s1.heap.objs.size _ (K76.Inv.fr0 J) rfl⟩
/-- t + u of tuples -/
def rCatS (K : PySem.W.Frag) : R2 := fun x y H Q => ∃ a b xs ys, x = .ref a ∧ y = .ref b ∧ SqT K H a xs ∧ SqT K H b ys ∧ xs.length + ys.length ≤ sizeLine ∧
  (xs = [] → Q (.ref b) H) ∧ (xs ≠ [] → ys = [] → Q (.ref a) H) ∧ (xs ≠ [] → ys ≠ [] → ∀ p o, H p = none → Obj.dict o = none → Q (.ref p) (upd H p (.frz o (.tup (xs ++ ys)))))
theorem op_catS : OpR X (binaryOp .Add) (rCatS X.K) := by
  intro pins s σ H x y v u Q I rx ry h
  obtain ⟨a, b, xs, ys, rfl, rfl, ha, hb, hz, q0, q1, q2⟩ := h
  by_cases hx : xs = []
  · exact op_catA pins s σ H _ _ v u Q I rx ry ⟨a, b, xs, ys, rfl, rfl, ha, hb, hz, q0, fun z => absurd hx z, fun z => absurd hx z⟩
  · cases rx
    cases ry
    obtain ⟨us, r1, p1, _⟩ := I.tuple ha
    obtain ⟨ws, r2, p2, _⟩ := I.tuple hb
    refine HT.cat_tup p1 p2 (fun z => hx (r1.nil_iff.mp z)) (fun z => ⟨.ref a, H, I, rfl, q1 hx (r2.nil_iff.mp z)⟩) (fun z => ?_) (by rw [← r1.length, ← r2.length]; exact hz)
    exact ⟨.ref s.heap.objs.size, _, K76.Inv.newTup I (r1.append r2) (by rw [List.length_append]; exact hz), rfl, q2 hx (fun w => z (r2.nil_iff.mpr w)) s.heap.objs.size _ (K76.Inv.fr0 I) rfl⟩
/-- t[lo:hi] -/
def rSlS (K : PySem.W.Frag) : V → Option Int → Option Int → Hp → VK → Prop := fun x lo hi H Q => ∃ a xs, x = .ref a ∧ SqT K H a xs ∧
  (HT.sIx xs.length 0 lo = 0 ∧ HT.sIx xs.length xs.length hi = xs.length → Q (.ref a) H) ∧ (¬ (HT.sIx xs.length 0 lo = 0 ∧ HT.sIx xs.length xs.length hi = xs.length) → ∀ p o, H p = none → Obj.dict o = none → Q (.ref p) (upd H p (.frz o (.tup (cutV xs lo hi)))))
theorem sl_tupS : SlR X (rSlS X.K) := by
  intro pins s σ H x v vl vu lo hi sl Q I rx hs pl pu h
  obtain ⟨a, xs, rfl, hx, q1, q2⟩ := h
  by_cases hw : HT.sIx xs.length 0 lo = 0 ∧ HT.sIx xs.length xs.length hi = xs.length
  · exact sl_tupA pins s σ H _ v vl vu lo hi sl Q I rx hs pl pu ⟨a, xs, rfl, hx, q1, fun z => absurd hw z⟩
  · cases rx
    obtain ⟨us, r, ht, hz⟩ := I.tuple hx
    have hlen : us.toArray.size = xs.length := by rw [List.size_toArray]; exact r.length.symm
    refine ⟨"tuple", _, PyProof.Rows.slot_tuple_getitem.lookup, ht.typeIs, HT.getItem_tuple_cut ht hs pl pu (by rw [hlen]; exact hw) ?_ (by rw [hlen]; exact hz)⟩
    rw [hlen]
    exact ⟨.ref s.heap.objs.size, _, K76.Inv.newTup I ((r.drop _).take _) (Nat.le_trans (cutV_length xs lo hi) hz), rfl, q2 hw s.heap.objs.size _ (K76.Inv.fr0 I) rfl⟩
/-- tuple(xs) -/
theorem call_tupleS : CallR X (.type "tuple") (fun xs H Q => ∃ p ys, xs = [.ref p] ∧ ((SqL X.K H p ys ∧ ∀ l o, H l = none → Obj.dict o = none → Q (.ref l) (upd H l (.frz o (.tup ys)))) ∨ (SqT X.K H p ys ∧ Q (.ref p) H))) := by
  intro pins s σ H xs us Q I r h
  obtain ⟨p, ys, rfl, h⟩ := h
  rcases h with ⟨hq, q⟩ | ⟨hq, q⟩
  · obtain ⟨u, rfl, rx⟩ := vals1 r
    cases rx
    obtain ⟨ws, r', pl, hz⟩ := I.list hq
    refine call_tuple_list pl.isList (fun h' kp => ?_) (by have := r'.length; simp only [List.size_toArray]; omega)
    have J : Inv X pins σ H { s with heap := h' } := I.kept (t' := s.toks) kp
    exact ⟨.ref h'.objs.size, _, K76.Inv.newTup J r' hz, rfl, q h'.objs.size _ (K76.Inv.fr0 J) rfl⟩
  · exact call_tuple_of pins s σ H _ us Q I r ⟨p, ys, rfl, .inr ⟨hq, q⟩⟩
end
end K76
end

/-! text Ops1 -/
section
namespace K76
open PySem PySem.Spec PyProof.Rows L2

/-! ### operations by values -/
/-- the reading of a two-place operation that the evaluator does by f -/
def rD2 (g : G) (f : D → D → Sto → Option (D × Sto)) : R2 := fun x y H Q => ∃ cl ρ S σd σ dx dy d S1, Sim g cl ρ S H σd σ ∧ DV g ρ H cl dx x ∧ DV g ρ H cl dy y ∧ f dx dy S = some (d, S1) ∧ Fin g cl ρ H σd σ d S1 Q
theorem OpR.imp {X : Cx} {F : Value → Value → Sem Value} {r r' : R2} (h : OpR X F r) (i : ∀ x y H Q, r' x y H Q → r x y H Q) : OpR X F r' :=
  fun pins s σ H x y v u Q I rx ry q => h pins s σ H x y v u Q I rx ry (i _ _ _ _ q)
theorem UnR.imp {X : Cx} {F : Value → Sem Value} {r r' : V → Hp → VK → Prop} (h : UnR X F r) (i : ∀ x H Q, r' x H Q → r x H Q) : UnR X F r' :=
  fun pins s σ H x v Q I rx q => h pins s σ H x v Q I rx (i _ _ _ q)
section
variable {g : G} {X : Cx}
theorem intOp_some {x y : D} {S : Sto} {ok : Int → Int → Bool} {f : Int → Int → Int} {d : D} {S1 : Sto} (h : intOp x y S ok f = some (d, S1)) : ∃ i j, asI x = some i ∧ asI y = some j ∧ ok i j = true ∧ d = .int (f i j) ∧ S1 = S := by
  unfold intOp at h
  obtain ⟨i, h1, h⟩ := opt_some h
  obtain ⟨j, h2, h⟩ := opt_some h
  obtain ⟨h3, h⟩ := grd_some h
  cases h
  exact ⟨i, j, h1, h2, h3, rfl, rfl⟩
theorem int_red {f : Int → Int → Int} {ok : Int → Int → Bool} {C : Int → Int → Prop} (hC : ∀ i j, ok i j = true → C i j) {x y : V} {H : Hp} {Q : VK} (h : rD2 g (fun a b S => intOp a b S ok f) x y H Q) : rI C (fun i j => .int (f i j)) x y H Q := by
  obtain ⟨cl, ρ, S, σd, σ, dx, dy, d, S1, M, h1, h2, h3, F⟩ := h
  obtain ⟨i, j, e1, e2, e3, rfl, rfl⟩ := intOp_some h3
  exact ⟨i, j, h1.int e1, h2.int e2, hC i j e3, F.same M rfl⟩
theorem rI0_of {f : Int → Int → V} {x y : V} {H : Hp} {Q : VK} (h : rI (fun _ _ => True) f x y H Q) : rI0 f x y H Q := by
  obtain ⟨i, j, e1, e2, _, q⟩ := h
  exact ⟨i, j, e1, e2, q⟩
theorem not0_ne {j : Int} (h : not0 j = true) : j ≠ 0 := by
  rintro rfl
  cases h
theorem i30_lt {j : Int} (h : i30 j = true) : j.natAbs < 1073741824 := Nat.lt_of_succ_le (Nat.le_of_ble_eq_true h)
theorem i62_lt {j : Int} (h : i62 j = true) : j.natAbs < 4611686018427387904 := Nat.lt_of_succ_le (Nat.le_of_ble_eq_true h)
theorem o_sub : OpR X (binaryOp .Sub) (rD2 g (binD .Sub)) := OpR.imp op_sub fun _ _ _ _ h => rI0_of (int_red (fun _ _ _ => trivial) h)
theorem o_fdiv : OpR X (binaryOp .FloorDiv) (rD2 g (binD .FloorDiv)) := OpR.imp op_fdivN fun _ _ _ _ h => int_red (fun i j e => by
  obtain ⟨e1, e2⟩ := Bool.and_eq_true_iff.mp e
  exact ⟨not0_ne e1, i30_lt e2⟩) h
theorem o_mod : OpR X (binaryOp .Mod) (rD2 g (binD .Mod)) := OpR.imp op_modN fun _ _ _ _ h => int_red (fun i j e => not0_ne e) h
theorem o_and : OpR X (binaryOp .BitAnd) (rD2 g (binD .BitAnd)) := OpR.imp op_and fun _ _ _ _ h => rI0_of (int_red (fun _ _ _ => trivial) h)
theorem o_or : OpR X (binaryOp .BitOr) (rD2 g (binD .BitOr)) := OpR.imp op_or fun _ _ _ _ h => rI0_of (int_red (fun _ _ _ => trivial) h)
theorem o_shl : OpR X (binaryOp .LShift) (rD2 g (binD .LShift)) := OpR.imp op_shl fun _ _ _ _ h => int_red (fun i j e => by
  unfold shlOk at e
  obtain ⟨e1, e2⟩ := Bool.and_eq_true_iff.mp e
  have := i62_lt e1
  cases j with
  | ofNat k =>
    have e3 : k ≤ 1000 := Nat.le_of_ble_eq_true e2
    refine ⟨Int.natCast_nonneg k, ?_, ?_⟩
    · show (k : Int) ≤ 1000000
      omega
    · exact Nat.lt_trans this (by decide)
  | negSucc k => cases e2) h
theorem o_add (hK : X.K = g.K) : OpR X (binaryOp .Add) (rD2 g (binD .Add)) := by
  refine OpR.imp (L2.OpR.or op_add (L2.OpR.or op_add_str (L2.OpR.or op_catS op_cat))) fun x y H Q h => ?_
  obtain ⟨cl, ρ, S, σd, σ, dx, dy, d, S1, M, h1, h2, h3, F⟩ := h
  have h3 : addD dx dy S = some (d, S1) := h3
  unfold addD at h3
  cases dx with
  | int i =>
    obtain ⟨j, e, h3⟩ := opt_some h3
    cases h3
    exact .inl ⟨i, j, h1, h2.int e, F.same M rfl⟩
  | str s =>
    obtain ⟨t, e, h3⟩ := opt_some h3
    obtain ⟨e2, h3⟩ := grd_some h3
    cases h3
    have e3 : s.cps.size + t.cps.size < 16000000 := Nat.lt_of_succ_le (Nat.le_of_ble_eq_true e2)
    exact .inr (.inl ⟨s, t, h1, h2.str e, line16 e3, F.same M rfl⟩)
  | tup a =>
    obtain ⟨b, e, h3⟩ := opt_some h3
    unfold newT at h3
    obtain ⟨e2, h3⟩ := grd_some h3
    cases h3
    obtain ⟨p, vs, rfl, q1, q2⟩ := h1
    obtain ⟨p', vs', rfl, q1', q2'⟩ := h2.tup e
    have l1 := q2.length
    have l2 := q2'.length
    have e3 := small_le e2
    rw [List.length_append] at e3
    rw [← hK] at q1 q1'
    refine .inr (.inr (.inl ⟨p, p', vs, vs', rfl, rfl, q1.sq, q1'.sq, line16 (by omega), fun z => ?_, fun z z' => ?_, fun z z' p'' o hp ho => F.tup M (q2.append q2') hp ho⟩))
    · subst z
      have : a = [] := List.eq_nil_of_length_eq_zero (by simpa using l1)
      subst this
      rw [hK] at q1'
      exact F.same M ⟨p', vs', rfl, q1', q2'⟩
    · subst z'
      have : b = [] := List.eq_nil_of_length_eq_zero (by simpa using l2)
      subst this
      rw [hK] at q1
      exact F.same M ⟨p, vs, rfl, q1, by rw [List.append_nil]; exact q2⟩
  | loc m =>
    obtain ⟨a, e, h3⟩ := opt_some h3
    obtain ⟨b, e', h3⟩ := opt_some h3
    unfold newL at h3
    obtain ⟨e2, h3⟩ := grd_some h3
    obtain ⟨_, p, vs, _, _, rfl, q1, q2⟩ := M.lst h1 e
    obtain ⟨_, p', vs', _, _, rfl, q1', q2'⟩ := M.lst h2 e'
    have l1 := q2.length
    have l2 := q2'.length
    have e3 := small_le e2
    rw [List.length_append] at e3
    cases h3
    exact .inr (.inr (.inr ⟨p, p', vs, vs', rfl, rfl, q1, q1', line16 (by omega), fun p'' hp => F.lst M (q2.append q2') hp⟩))
  | _ => cases h3
theorem repL_eq {α : Type} (l : List α) : ∀ n, repL n l = (List.replicate n l).flatten
  | 0 => rfl
  | n + 1 => by
    show l ++ repL n l = _
    rw [repL_eq l n, List.replicate_succ, List.flatten_cons]
theorem DVs.rep {ρ : List Addr} {H : Hp} {cl : Cl} {ds : List D} {vs : List V} (h : DVs g ρ H cl ds vs) : ∀ n, DVs g ρ H cl (List.replicate n ds).flatten (List.replicate n vs).flatten
  | 0 => rfl
  | n + 1 => by
    rw [List.replicate_succ, List.flatten_cons, List.replicate_succ, List.flatten_cons]
    exact h.append (h.rep n)
/-- text times number -/
theorem rep_cps (x : List Nat) : ∀ (k : Nat) (acc : Array Nat), (List.replicate k x.toArray).foldl (· ++ ·) acc = acc ++ (List.replicate k x).flatten.toArray
  | 0, acc => by simp
  | k + 1, acc => by
    rw [List.replicate_succ, List.foldl_cons, rep_cps x k, List.replicate_succ, List.flatten_cons]
    simp [Array.append_assoc]
theorem op_strRep : OpR X (binaryOp .Mult) (fun x y H Q => ∃ (s : Str) (k : Nat), x = .str s ∧ y = .int (k : Int) ∧ s.cps.size * k < 16000000 ∧ k < 16000000 ∧ Q (.str ⟨(List.replicate k s.cps.toList).flatten.toArray⟩) H) := by
  intro pins s σ H x y v u Q I rx ry h
  obtain ⟨z, k, rfl, rfl, hz, hk, q⟩ := h
  obtain ⟨t, rfl⟩ := rx
  obtain ⟨t', rfl⟩ := ry
  have e : (List.replicate k z.cps).foldl (· ++ ·) #[] = (List.replicate k z.cps.toList).flatten.toArray := by
    have := rep_cps z.cps.toList k #[]
    simpa using this
  have hlen : z.length = z.cps.size := rfl
  refine PySem.P.mul_str ?_ (fun h1 h2 => ?_) (fun h1 h2 => ?_) ?_
  · have e1 : decide ((k : Int) < -(2 ^ 63 : Int)) = false := decide_eq_false (by omega)
    have e2 : decide ((k : Int) ≥ 2 ^ 63) = false := decide_eq_false (by omega)
    rw [e1, e2] <;> rfl
  · rw [hlen]
    have hk0 : (0 : Int) < (k : Int) := by omega
    have h3 : ((z.cps.size : Nat) : Int) ≤ (2 ^ 63 - 1) / (k : Int) := (Int.le_ediv_iff_mul_le hk0).mpr (by
      have h4 : ((z.cps.size : Nat) : Int) * (k : Int) = ((z.cps.size * k : Nat) : Int) := by rw [Int.natCast_mul]
      rw [h4]
      omega)
    omega
  · have e1 : z.length * (k : Int).toNat = z.cps.size * k := by rw [hlen] <;> rfl
    rw [e1]
    exact decide_eq_false (by rw [sizeLine_eq]; omega)
  · rw [show ((k : Int)).toNat = k from rfl, e]
    by_cases h1 : (k : Int) < 1
    · rw [if_pos h1]
      have hk : k = 0 := by omega
      subst hk
      exact ⟨Nat.zero_le _, .str Str.empty, H, I.tok _, ⟨_, rfl⟩, q⟩
    · rw [if_neg h1]
      by_cases h2 : ((k : Int) == 1 || z.length == 0) = true
      · rw [if_pos h2]
        have e3 : (⟨(List.replicate k z.cps.toList).flatten.toArray⟩ : Str) = z := by
          rcases Bool.or_eq_true_iff.mp h2 with h3 | h3
          · have hk : k = 1 := by
              have := of_decide_eq_true (p := (k : Int) = 1) (by simpa using h3)
              omega
            subst hk
            simp
          · have hz0 : z.cps.toList = [] := by
              have h4 : z.cps.size = 0 := by
                have := beq_iff_eq.mp h3
                exact this
              exact List.eq_nil_of_length_eq_zero (by simpa using h4)
            have hz1 : z.cps = #[] := by
              cases z with
              | mk c =>
                cases c with
                | mk l =>
                  have : l = [] := hz0
                  rw [this]
            cases z with
            | mk c =>
              have : c = #[] := hz1
              subst this
              simp
        rw [e3] at q
        exact ⟨.str z, H, I, ⟨_, rfl⟩, q⟩
      · rw [if_neg h2]
        refine ⟨?_, .str _, H, I.tok _, ⟨_, rfl⟩, q⟩
        show (List.replicate k z.cps.toList).flatten.toArray.size ≤ sizeLine
        rw [List.size_toArray]
        have e4 : ((List.replicate k z.cps.toList).flatten).length = k * z.cps.size := by simp
        rw [e4, Nat.mul_comm]
        exact line16 hz
theorem o_mul (hK : X.K = g.K) : OpR X (binaryOp .Mult) (rD2 g (binD .Mult)) := by
  refine OpR.imp (L2.OpR.or op_mul (L2.OpR.or op_rep op_strRep)) fun x y H Q h => ?_
  obtain ⟨cl, ρ, S, σd, σ, dx, dy, d, S1, M, h1, h2, h3, F⟩ := h
  have h3 : mulD dx dy S = some (d, S1) := h3
  unfold mulD at h3
  cases dx with
  | int i =>
    obtain ⟨j, e, h3⟩ := opt_some h3
    obtain ⟨e2, h3⟩ := grd_some h3
    cases h3
    refine .inl ⟨i, j, h1, h2.int e, ?_, F.same M rfl⟩
    rcases Bool.or_eq_true_iff.mp e2 with z | z
    · have := i62_lt z
      exact .inl (by omega)
    · have := i62_lt z
      exact .inr (by omega)
  | loc m =>
    obtain ⟨a, e, h3⟩ := opt_some h3
    cases dy with
    | int j =>
      cases j with
      | ofNat k =>
        have h3 : grd (Nat.blt k 16000000) (newL S (repL k a)) = some (d, S1) := h3
        obtain ⟨e0, h3⟩ := grd_some h3
        have e0 : k < 16000000 := Nat.lt_of_succ_le (Nat.le_of_ble_eq_true e0)
        unfold newL at h3
        obtain ⟨e2, h3⟩ := grd_some h3
        obtain ⟨_, p, vs, _, _, rfl, q1, q2⟩ := M.lst h1 e
        have l1 := q2.length
        have e3 := small_le e2
        rw [repL_eq] at e3 h3
        have e4 : ((List.replicate k a).flatten).length = k * a.length := by simp
        rw [e4] at e3
        cases h3
        refine .inr (.inl ⟨p, (k : Int), vs, rfl, h2, q1, by omega, by omega, ?_, fun p' hp => ?_⟩)
        · rw [← l1, show ((k : Int)).toNat = k from rfl, Nat.mul_comm]
          exact line16 e3
        · rw [show ((k : Int)).toNat = k from rfl]
          exact F.lst M (q2.rep k) hp
      | negSucc k => cases h3
    | _ => cases h3
  | str s =>
    cases dy with
    | int j =>
      cases j with
      | ofNat k =>
        have h3 : grd (Nat.blt k 16000000 && Nat.blt (s.cps.size * k) 16000000) (some (D.str ⟨(repL k s.cps.toList).toArray⟩, S)) = some (d, S1) := h3
        obtain ⟨e2, h3⟩ := grd_some h3
        obtain ⟨e0, e2⟩ := Bool.and_eq_true_iff.mp e2
        have e0 : k < 16000000 := Nat.lt_of_succ_le (Nat.le_of_ble_eq_true e0)
        have e2 : s.cps.size * k < 16000000 := Nat.lt_of_succ_le (Nat.le_of_ble_eq_true e2)
        cases h3
        rw [repL_eq] at F
        exact .inr (.inr ⟨s, k, h1, h2, e2, e0, F.same M rfl⟩)
      | negSucc k => cases h3
    | _ => cases h3
  | _ => cases h3
end
end K76
end

/-! text Ops2 -/
section
namespace K76
open PySem PySem.Spec PyProof.Rows L2

/-! ### data as Python compares it -/
section
variable {g : G} {ρ : List Addr} {H : Hp} {cl : Cl}
mutual
theorem DV.dp : ∀ (d : D) {v : V} {p : PyData}, toP d = some p → DV g ρ H cl d v → Dp g.K H v p
  | .non, v, p, e, h => by
    cases e
    have h : v = .non := h
    subst h
    exact .non
  | .bl b, v, p, e, h => by
    cases e
    have h : v = .bl b := h
    subst h
    exact .bl b
  | .int b, v, p, e, h => by
    cases e
    have h : v = .int b := h
    subst h
    exact .int b
  | .str b, v, p, e, h => by
    cases e
    have h : v = .str b := h
    subst h
    exact .str b
  | .ty _, _, _, e, _ => by cases e
  | .glo _, _, _, e, _ => by cases e
  | .loc _, _, _, e, _ => by cases e
  | .lam _ _, _, _, e, _ => by cases e
  | .tup ds, v, p, e, h => by
    obtain ⟨ps, e1, e2⟩ := opt_some (show opt (toPs ds) (fun ps => some (PyData.tuple ps)) = some p from e)
    cases e2
    obtain ⟨a, vs, rfl, h1, h2⟩ := h
    exact .tup h1.sq (DVs.dp ds e1 h2)
theorem DVs.dp : ∀ (ds : List D) {vs : List V} {ps : List PyData}, toPs ds = some ps → DVs g ρ H cl ds vs → DpAll g.K H vs ps
  | [], vs, ps, e, h => by
    cases e
    have h : vs = [] := h
    subst h
    exact .nil
  | d :: r, vs, ps, e, h => by
    obtain ⟨p, e1, e2⟩ := opt_some (show opt (toP d) (fun p => opt (toPs r) fun q => some (p :: q)) = some ps from e)
    obtain ⟨q, e3, e4⟩ := opt_some e2
    cases e4
    obtain ⟨v, vr, rfl, h1, h2⟩ := h
    exact .cons (DV.dp d e1 h1) (DVs.dp r e3 h2)
end
end
mutual
theorem eqD_eqv : ∀ (x y : D) {p q : PyData} {b : Bool}, toP x = some p → toP y = some q → eqD x y = some b → PyData.eqv p q = b
  | .non, y, p, q, b, ep, eq, h => by
    cases ep
    cases y <;> first | (cases h; done) | skip
    all_goals first
      | (cases eq; cases h; rfl)
      | (obtain ⟨ps, _, e2⟩ := opt_some (show opt (toPs _) (fun ps => some (PyData.tuple ps)) = some q from eq); cases e2; cases h; rfl)
  | .bl a, y, p, q, b, ep, eq, h => by
    cases ep
    cases y <;> first | (cases h; done) | skip
    all_goals (cases eq; cases h; rfl)
  | .int a, y, p, q, b, ep, eq, h => by
    cases ep
    cases y <;> first | (cases h; done) | skip
    all_goals first
      | (cases eq; cases h; rfl)
      | (cases eq; cases h; exact Bool.beq_eq_decide_eq _ _)
      | (obtain ⟨ps, _, e2⟩ := opt_some (show opt (toPs _) (fun ps => some (PyData.tuple ps)) = some q from eq); cases e2; cases h; rfl)
  | .str a, y, p, q, b, ep, eq, h => by
    cases ep
    cases y <;> first | (cases h; done) | skip
    all_goals first
      | (cases eq; cases h; rfl)
      | (cases eq; cases h; rw [eqS_dec]; exact Bool.beq_eq_decide_eq _ _)
      | (obtain ⟨ps, _, e2⟩ := opt_some (show opt (toPs _) (fun ps => some (PyData.tuple ps)) = some q from eq); cases e2; cases h; rfl)
  | .tup xs, y, p, q, b, ep, eq, h => by
    obtain ⟨ps, e1, e2⟩ := opt_some (show opt (toPs xs) (fun ps => some (PyData.tuple ps)) = some p from ep)
    cases e2
    cases y <;> first | (cases h; done) | skip
    all_goals first
      | (cases eq; cases h; rfl)
      | (obtain ⟨qs, e3, e4⟩ := opt_some (show opt (toPs _) (fun ps => some (PyData.tuple ps)) = some q from eq); cases e4; exact eqDs_eqv xs _ e1 e3 h)
  | .ty _, _, _, _, _, ep, _, _ => by cases ep
  | .glo _, _, _, _, _, ep, _, _ => by cases ep
  | .loc _, _, _, _, _, ep, _, _ => by cases ep
  | .lam _ _, _, _, _, _, ep, _, _ => by cases ep
theorem eqDs_eqv : ∀ (xs ys : List D) {ps qs : List PyData} {b : Bool}, toPs xs = some ps → toPs ys = some qs → eqDs xs ys = some b → PyData.eqvAll ps qs = b
  | [], [], _, _, _, e1, e2, h => by
    cases e1
    cases e2
    cases h
    rfl
  | [], y :: r, _, qs, _, e1, e2, h => by
    cases e1
    obtain ⟨p, _, e2⟩ := opt_some (show opt (toP y) (fun p => opt (toPs r) fun q => some (p :: q)) = some qs from e2)
    obtain ⟨q, _, e4⟩ := opt_some e2
    cases e4
    cases h
    rfl
  | x :: xs, [], ps, _, _, e1, e2, h => by
    cases e2
    obtain ⟨p, _, e2⟩ := opt_some (show opt (toP x) (fun p => opt (toPs xs) fun q => some (p :: q)) = some ps from e1)
    obtain ⟨q, _, e4⟩ := opt_some e2
    cases e4
    cases h
    rfl
  | x :: xs, y :: ys, ps, qs, b, e1, e2, h => by
    obtain ⟨p, f1, e1⟩ := opt_some (show opt (toP x) (fun p => opt (toPs xs) fun q => some (p :: q)) = some ps from e1)
    obtain ⟨pr, f2, e1⟩ := opt_some e1
    cases e1
    obtain ⟨q, f3, e2⟩ := opt_some (show opt (toP y) (fun p => opt (toPs ys) fun q => some (p :: q)) = some qs from e2)
    obtain ⟨qr, f4, e2⟩ := opt_some e2
    cases e2
    obtain ⟨c, h1, h⟩ := opt_some (show opt (eqD x y) (fun b => match b with | true => eqDs xs ys | false => some false) = some b from h)
    have h2 := eqD_eqv x y f1 f3 h1
    show (PyData.eqv p q && PyData.eqvAll pr qr) = b
    rw [h2]
    cases c with
    | true => exact eqDs_eqv xs ys f2 f4 h
    | false =>
      cases h
      rfl
end
section
variable {g : G} {ρ : List Addr} {H : Hp} {cl : Cl}
/-- flat data -/
theorem eqD_flat {dx dy : D} {x y : V} {b : Bool} (fx : flatD dx = true) (fy : flatD dy = true) (h : eqD dx dy = some b) (h1 : DV g ρ H cl dx x) (h2 : DV g ρ H cl dy y) : scal x y = true ∧ decide (x = y) = b ∧ eqV x y = b ∧ flatV x = true ∧ flatV y = true := by
  cases dx <;> first | (cases fx; done) | skip
  all_goals cases dy <;> first | (cases fy; done) | (cases h; done) | skip
  all_goals
    have h1 : x = _ := h1
    have h2 : y = _ := h2
    subst h1 h2
    cases h
    refine ⟨rfl, ?_, ?_, rfl, rfl⟩
  all_goals first
    | rfl
    | exact dec_bl
    | (rw [eqS_dec]; exact decide_eq_decide.mpr ⟨fun z => by injection z, fun z => by rw [z]⟩)
    | exact Bool.beq_eq_decide_eq _ _
    | (rw [eqS_dec]; exact Bool.beq_eq_decide_eq _ _)
    | simp
theorem flat_of {d : D} {v : V} (f : flatD d = true) (h : DV g ρ H cl d v) : flatV v = true := by
  cases d <;> first | (cases f; done) | skip
  all_goals
    have h : v = _ := h
    subst h
    rfl
theorem flats_of : ∀ {ds : List D} {vs : List V}, flatDs ds = true → DVs g ρ H cl ds vs → vs.all flatV = true
  | [], _, _, h => by
    have h : _ = [] := h
    rw [h]
    rfl
  | d :: r, _, f, h => by
    obtain ⟨v, q, rfl, h1, h2⟩ := h
    rw [flatDs] at f
    cases e : flatD d with
    | false =>
      rw [e] at f
      cases f
    | true =>
      rw [e] at f
      rw [List.all_cons, flat_of e h1, flats_of f h2] <;> rfl
theorem memD_flat {dx : D} {x : V} (fx : flatD dx = true) (h1 : DV g ρ H cl dx x) : ∀ {ds : List D} {vs : List V} {b : Bool}, flatDs ds = true → DVs g ρ H cl ds vs → memD dx ds = some b → inV x vs = b
  | [], _, _, _, h, e => by
    have h : _ = [] := h
    rw [h]
    cases e
    rfl
  | d :: r, _, b, f, h, e => by
    obtain ⟨v, q, rfl, h2, h3⟩ := h
    rw [flatDs] at f
    cases fd : flatD d with
    | false =>
      rw [fd] at f
      cases f
    | true =>
      rw [fd] at f
      obtain ⟨c, e1, e⟩ := opt_some (show opt (eqD d dx) (fun b => match b with | true => some true | false => memD dx r) = some b from e)
      have e2 := (eqD_flat fd fx e1 h2 h1).2.2.1
      show ((v :: q).any fun y => eqV y x) = b
      rw [List.any_cons, e2]
      cases c with
      | true =>
        cases e
        rfl
      | false => exact memD_flat fx h1 f h3 e
theorem memD_data {dx : D} {p : PyData} (ep : toP dx = some p) : ∀ {ds : List D} {qs : List PyData} {b : Bool}, toPs ds = some qs → memD dx ds = some b → (qs.any fun z => PyData.eqv z p) = b
  | [], _, _, eq, e => by
    cases eq
    cases e
    rfl
  | d :: r, qs, b, eq, e => by
    obtain ⟨q, e1, eq⟩ := opt_some (show opt (toP d) (fun p => opt (toPs r) fun q => some (p :: q)) = some qs from eq)
    obtain ⟨qr, e2, eq⟩ := opt_some eq
    cases eq
    obtain ⟨c, e3, e⟩ := opt_some (show opt (eqD d dx) (fun b => match b with | true => some true | false => memD dx r) = some b from e)
    rw [List.any_cons, eqD_eqv d dx e1 ep e3]
    cases c with
    | true =>
      cases e
      rfl
    | false => exact memD_data ep e2 e
end

/-! ### comparisons by values -/
/-- the reading of a comparison that the evaluator does by f -/
def rC2 (g : G) (f : Sto → D → D → Option Bool) : R2 := fun x y H Q => ∃ cl ρ S σd σ dx dy b, Sim g cl ρ S H σd σ ∧ DV g ρ H cl dx x ∧ DV g ρ H cl dy y ∧ f S dx dy = some b ∧ Q (.bl b) H
section
variable {g : G} {X : Cx} {k : Nat}
theorem intC_some {x y : D} {f : Int → Int → Bool} {b : Bool} (h : intC x y f = some b) : ∃ i j, asI x = some i ∧ asI y = some j ∧ b = f i j := by
  unfold intC at h
  obtain ⟨i, h1, h⟩ := opt_some h
  obtain ⟨j, h2, h⟩ := opt_some h
  cases h
  exact ⟨i, j, h1, h2, rfl⟩
theorem intC_red {f : Int → Int → Bool} {x y : V} {H : Hp} {Q : VK} (h : rC2 g (fun _ a b => intC a b f) x y H Q) : rI0 (fun i j => .bl (f i j)) x y H Q := by
  obtain ⟨cl, ρ, S, σd, σ, dx, dy, b, M, h1, h2, h3, q⟩ := h
  obtain ⟨i, j, e1, e2, rfl⟩ := intC_some h3
  exact ⟨i, j, h1.int e1, h2.int e2, q⟩
theorem o_gt : OpR X (compareOp .Gt) (rC2 g fun S => cmpD S .Gt) := OpR.imp op_gt fun _ _ _ _ h => intC_red h
theorem o_le : OpR X (compareOp .LtE) (rC2 g fun S => cmpD S .LtE) := OpR.imp op_le fun _ _ _ _ h => intC_red h
theorem o_ge : OpR X (compareOp .GtE) (rC2 g fun S => cmpD S .GtE) := OpR.imp op_ge fun _ _ _ _ h => intC_red h
/-- == -/
def EqRed (g : G) (x y : V) (H : Hp) (b : Bool) : Prop := (scal x y = true ∧ decide (x = y) = b) ∨ ∃ p q, Dp g.K H x p ∧ Dp g.K H y q ∧ SeqAt.shaped p = true ∧ SeqAt.shaped q = true ∧ PyData.eqv p q = b
theorem eqC_red {ρ : List Addr} {H : Hp} {cl : Cl} {dx dy : D} {x y : V} {b : Bool} (h : eqC dx dy = some b) (h1 : DV g ρ H cl dx x) (h2 : DV g ρ H cl dy y) : EqRed g x y H b := by
  unfold eqC at h
  cases e : flatD dx && flatD dy with
  | true =>
    rw [e] at h
    obtain ⟨e1, e2⟩ := Bool.and_eq_true_iff.mp e
    have z := eqD_flat e1 e2 h h1 h2
    exact .inl ⟨z.1, z.2.1⟩
  | false =>
    rw [e] at h
    obtain ⟨p, e1, h⟩ := opt_some h
    obtain ⟨q, e2, h⟩ := opt_some h
    obtain ⟨e3, h⟩ := grd_some h
    obtain ⟨e3, e4⟩ := Bool.and_eq_true_iff.mp e3
    exact .inr ⟨p, q, h1.dp _ e1, h2.dp _ e2, e3, e4, eqD_eqv _ _ e1 e2 h⟩
theorem o_eq (hK : X.K = g.K) (hr : Room k X.A) : OpR X (compareOp .Eq) (rC2 g fun S => cmpD S .Eq) := by
  refine OpR.imp (L2.OpR.or op_eq (op_eqD hr.units)) fun x y H Q h => ?_
  obtain ⟨cl, ρ, S, σd, σ, dx, dy, b, M, h1, h2, h3, q⟩ := h
  rcases eqC_red h3 h1 h2 with ⟨e1, e2⟩ | ⟨p, p', e1, e2, e3, e4, e5⟩
  · exact .inl ⟨e1, by rw [e2]; exact q⟩
  · rw [← hK] at e1 e2
    exact .inr ⟨p, p', e1, e2, e3, e4, by rw [e5]; exact q⟩
theorem notO_some {o : Option Bool} {b : Bool} (h : notO o = some b) : ∃ c, o = some c ∧ b = !c := by
  obtain ⟨c, e, h⟩ := opt_some h
  cases h
  exact ⟨c, e, rfl⟩
theorem o_ne (hK : X.K = g.K) (hr : Room k X.A) : OpR X (compareOp .NotEq) (rC2 g fun S => cmpD S .NotEq) := by
  refine OpR.imp (L2.OpR.or op_ne (op_neD hr.units)) fun x y H Q h => ?_
  obtain ⟨cl, ρ, S, σd, σ, dx, dy, b, M, h1, h2, h3, q⟩ := h
  obtain ⟨c, h4, rfl⟩ := notO_some h3
  rcases eqC_red h4 h1 h2 with ⟨e1, e2⟩ | ⟨p, p', e1, e2, e3, e4, e5⟩
  · exact .inl ⟨e1, by rw [e2]; exact q⟩
  · rw [← hK] at e1 e2
    exact .inr ⟨p, p', e1, e2, e3, e4, by rw [e5]; exact q⟩
/-- x is True, x is False -/
theorem plain_bl {x : V} {v : Value} {b : Bool} (rx : RelV x v) : plainIs v (.bool b) = true ∧ (v = Value.bool b ↔ x = .bl b) := by
  cases x with
  | non => cases rx; exact ⟨rfl, by simp⟩
  | bl c => cases rx; exact ⟨rfl, by simp⟩
  | int c => obtain ⟨t, rfl⟩ := rx; exact ⟨rfl, by simp⟩
  | str c => obtain ⟨t, rfl⟩ := rx; exact ⟨rfl, by simp⟩
  | byt c => obtain ⟨t, rfl⟩ := rx; exact ⟨rfl, by simp⟩
  | flt c => obtain ⟨t, rfl⟩ := rx; exact ⟨rfl, by simp⟩
  | ref c => cases rx; exact ⟨rfl, by simp⟩
  | ty c => cases rx; exact ⟨rfl, by simp⟩
theorem op_isB : OpR X (compareOp .Is) (fun x y H Q => ∃ b, y = .bl b ∧ Q (.bl (decide (x = .bl b))) H) := by
  intro pins s σ H x y v u Q I rx ry h
  obtain ⟨b, rfl, q⟩ := h
  cases ry
  obtain ⟨h1, h2⟩ := plain_bl (b := b) rx
  by_cases e : x = .bl b
  · rw [h2.mpr e] at h1 ⊢
    exact wpAny_is_self h1 ⟨.bl true, H, I, rfl, by rw [decide_eq_true e] at q; exact q⟩
  · exact wpAny_is_other h1 (fun z => e (h2.mp z)) ⟨.bl false, H, I, rfl, by rw [decide_eq_false e] at q; exact q⟩
theorem op_isnotB : OpR X (compareOp .IsNot) (fun x y H Q => ∃ b, y = .bl b ∧ Q (.bl (!decide (x = .bl b))) H) := by
  intro pins s σ H x y v u Q I rx ry h
  obtain ⟨b, rfl, q⟩ := h
  cases ry
  obtain ⟨h1, h2⟩ := plain_bl (b := b) rx
  by_cases e : x = .bl b
  · rw [h2.mpr e] at h1 ⊢
    exact wpAny_isNot_self h1 ⟨.bl false, H, I, rfl, by rw [decide_eq_true e] at q; exact q⟩
  · exact wpAny_isNot_other h1 (fun z => e (h2.mp z)) ⟨.bl true, H, I, rfl, by rw [decide_eq_false e] at q; exact q⟩
theorem isD_red {ρ : List Addr} {H : Hp} {cl : Cl} {dx dy : D} {x y : V} {b : Bool} (h : isD dx dy = some b) (h1 : DV g ρ H cl dx x) (h2 : DV g ρ H cl dy y) : (y = .non ∧ decide (x = .non) = b) ∨ ∃ c, y = .bl c ∧ decide (x = .bl c) = b := by
  unfold isD at h
  cases dy with
  | non =>
    have h : some (isN dx) = some b := h
    cases h
    refine .inl ⟨h2, ?_⟩
    cases dx with
    | non =>
      have h1 : x = .non := h1
      rw [h1]
      rfl
    | bl _ | int _ | str _ | ty _ =>
      have h1 : x = _ := h1
      rw [h1]
      rfl
    | glo _ | loc _ =>
      obtain ⟨a, _, rfl⟩ := h1
      rfl
    | tup _ | lam _ _ =>
      obtain ⟨a, _, rfl, _⟩ := h1
      rfl
  | bl c =>
    refine .inr ⟨c, h2, ?_⟩
    cases dx with
    | bl c' =>
      cases h
      have h1 : x = _ := h1
      rw [h1, dec_bl]
      cases c <;> cases c' <;> rfl
    | non | int _ | str _ =>
      cases h
      have h1 : x = _ := h1
      rw [h1]
      rfl
    | tup _ =>
      cases h
      obtain ⟨a, _, rfl, _⟩ := h1
      rfl
    | _ => cases h
  | _ => cases h
theorem o_is : OpR X (compareOp .Is) (rC2 g fun S => cmpD S .Is) := by
  refine OpR.imp (L2.OpR.or op_isN op_isB) fun x y H Q h => ?_
  obtain ⟨cl, ρ, S, σd, σ, dx, dy, b, M, h1, h2, h3, q⟩ := h
  rcases isD_red h3 h1 h2 with ⟨e1, e2⟩ | ⟨c, e1, e2⟩
  · exact .inl ⟨e1, by rw [e2]; exact q⟩
  · exact .inr ⟨c, e1, by rw [e2]; exact q⟩
theorem o_isnot : OpR X (compareOp .IsNot) (rC2 g fun S => cmpD S .IsNot) := by
  refine OpR.imp (L2.OpR.or op_notN op_isnotB) fun x y H Q h => ?_
  obtain ⟨cl, ρ, S, σd, σ, dx, dy, b, M, h1, h2, h3, q⟩ := h
  obtain ⟨c, h4, rfl⟩ := notO_some h3
  rcases isD_red h4 h1 h2 with ⟨e1, e2⟩ | ⟨c, e1, e2⟩
  · exact .inl ⟨e1, by rw [e2]; exact q⟩
  · exact .inr ⟨c, e1, by rw [e2]; exact q⟩
/-- < of data -/
theorem op_ltData (hr : Room k X.A) : OpR X (compareOp .Lt) (fun x y H Q => ∃ p q, Dp X.K H x p ∧ Dp X.K H y q ∧ SeqAt.shaped p = true ∧ PySem.W.alike p q = true ∧ p ≠ .none ∧ Q (.bl (PySem.W.dataLt p q)) H) := by
  intro pins s σ H x y v u Q I rx ry h
  obtain ⟨p, q, h1, h2, h3, h4, h5, hq⟩ := h
  obtain ⟨as, r1⟩ := Dp.reads I p x v h1 rx
  obtain ⟨bs, r2⟩ := Dp.reads I q y u h2 ry
  refine PySem.W.lt_data r1 r2 h4 h5 ?_ ⟨.bl _, H, I, rfl, hq⟩
  have z := SeqAt.depth_of_shaped h3
  have := hr.units
  omega
theorem o_lt (hK : X.K = g.K) (hr : Room k X.A) : OpR X (compareOp .Lt) (rC2 g fun S => cmpD S .Lt) := by
  refine OpR.imp (L2.OpR.or op_lt (op_ltData hr)) fun x y H Q h => ?_
  obtain ⟨cl, ρ, S, σd, σ, dx, dy, b, M, h1, h2, h3, q⟩ := h
  have gen : ltC dx dy = some b → ∃ p q, Dp X.K H x p ∧ Dp X.K H y q ∧ SeqAt.shaped p = true ∧ PySem.W.alike p q = true ∧ p ≠ .none ∧ Q (.bl (PySem.W.dataLt p q)) H := fun h => by
    obtain ⟨p, e1, h⟩ := opt_some h
    obtain ⟨p', e2, h⟩ := opt_some h
    obtain ⟨e3, h⟩ := grd_some h
    cases h
    simp only [Bool.and_eq_true] at e3
    obtain ⟨⟨⟨e3, e4⟩, _⟩, e5⟩ := e3
    rw [hK]
    refine ⟨p, p', h1.dp _ e1, h2.dp _ e2, e4, e3, ?_, q⟩
    rintro rfl
    cases e5
  cases dx with
  | int i =>
    obtain ⟨j, e, h3⟩ := opt_some (show opt (asI dy) (fun j => some (decide (i < j))) = some b from h3)
    cases h3
    exact .inl ⟨i, j, h1, h2.int e, q⟩
  | _ => exact .inr (gen h3)
/-- in -/
theorem op_inDT (hu : X.A.units + 65 < cLine) : OpR X (compareOp .In) (fun x y H Q => ∃ d ds, Dp X.K H x d ∧ Dp X.K H y (.tuple ds) ∧ SeqAt.shaped d = true ∧ SeqAt.shaped (.tuple ds) = true ∧ Q (.bl (ds.any fun z => PyData.eqv z d)) H) := by
  intro pins s σ H x y v u Q I rx ry h
  obtain ⟨d, ds, hd, he, sd, se, q⟩ := h
  obtain ⟨as, r1⟩ := Dp.reads I d x v hd rx
  obtain ⟨bs, r2⟩ := Dp.reads I (.tuple ds) y u he ry
  have z := SeqAt.depth_of_shaped sd
  exact SeqAt.in_tuple_reads r2 r1 (SeqAt.canLay_of_shaped se) (SeqAt.canLay_of_shaped sd) (by omega) ⟨.bl _, H, I, rfl, q⟩
theorem op_notInDT (hu : X.A.units + 65 < cLine) : OpR X (compareOp .NotIn) (fun x y H Q => ∃ d ds, Dp X.K H x d ∧ Dp X.K H y (.tuple ds) ∧ SeqAt.shaped d = true ∧ SeqAt.shaped (.tuple ds) = true ∧ Q (.bl (!(ds.any fun z => PyData.eqv z d))) H) := by
  intro pins s σ H x y v u Q I rx ry h
  obtain ⟨d, ds, hd, he, sd, se, q⟩ := h
  obtain ⟨as, r1⟩ := Dp.reads I d x v hd rx
  obtain ⟨bs, r2⟩ := Dp.reads I (.tuple ds) y u he ry
  have z := SeqAt.depth_of_shaped sd
  exact SeqAt.notIn_tuple_reads r2 r1 (SeqAt.canLay_of_shaped se) (SeqAt.canLay_of_shaped sd) (by omega) ⟨.bl _, H, I, rfl, q⟩
theorem op_inDict (hu : X.A.units + 1 < cLine) : OpR X (compareOp .In) (fun x y H Q => ∃ a o, y = .ref a ∧ DGet H a x o ∧ Q (.bl o.isSome) H) := by
  intro pins s σ H x y v u Q I rx ry h
  obtain ⟨a, o, rfl, hd, q⟩ := h
  cases ry
  exact d_in hu I hd rx fun s' I' => ⟨.bl _, H, I', rfl, q⟩
theorem op_notInDict (hu : X.A.units + 1 < cLine) : OpR X (compareOp .NotIn) (fun x y H Q => ∃ a o, y = .ref a ∧ DGet H a x o ∧ Q (.bl (!o.isSome)) H) := by
  intro pins s σ H x y v u Q I rx ry h
  obtain ⟨a, o, rfl, hd, q⟩ := h
  cases ry
  exact d_notIn hu I hd rx fun s' I' => ⟨.bl _, H, I', rfl, q⟩
theorem mem1_dec (c : Nat) : ∀ l : List Nat, mem1 c l = decide (c ∈ l)
  | [] => by simp [mem1]
  | a :: r => by
    rw [mem1]
    cases h : Nat.beq a c with
    | true =>
      have e := Nat.eq_of_beq_eq_true h
      subst e
      simp
    | false =>
      have e := Nat.ne_of_beq_eq_false h
      show mem1 c r = _
      rw [mem1_dec c r]
      refine decide_eq_decide.mpr ⟨fun z => List.mem_cons_of_mem _ z, fun z => ?_⟩
      rcases List.mem_cons.mp z with z | z
      · exact absurd z.symm e
      · exact z
end
end K76
end

/-! text Ops3 -/
section
namespace K76
open PySem PySem.Spec PyProof.Rows L2

/-! ### keys -/
theorem keyD_eq {x y : D} {a b : Key} {c : Bool} (hx : keyD x = some a) (hy : keyD y = some b) (h : eqD x y = some c) : decide (a = b) = c := by
  cases x <;> first | (cases hx; done) | skip
  all_goals cases y <;> first | (cases hy; done) | skip
  all_goals
    cases hx
    cases hy
    cases h
  · rw [key_ll]
    exact Bool.beq_eq_decide_eq _ _
  · exact key_lr _ _
  · exact key_rl _ _
  · rw [key_rr, eqS_dec]
theorem isKey_keyD {d : D} (h : isKeyD d = true) : ∃ k, keyD d = some k := by
  cases d <;> first | exact ⟨_, rfl⟩ | cases h
section
variable {g : G} {ρ : List Addr} {H : Hp} {cl : Cl}
theorem DV.key {d : D} {k : Key} {v : V} (e : keyD d = some k) (h : DV g ρ H cl d v) : v = kV k := by
  cases d <;> first | (cases e; done) | skip
  all_goals
    cases e
    exact h
theorem KvR.look {dk : D} {k : Key} (ek : keyD dk = some k) : ∀ {kvs : List (D × D)} {ks : List (Key × V)} {o : Option D}, KvR g ρ H cl kvs ks → dLook dk kvs = some o →
    (∀ d, o = some d → ∃ v, valV ks k = some v ∧ DV g ρ H cl d v) ∧ (o = none → valV ks k = none)
  | [], _, o, h, e => by
    have h : _ = [] := h
    subst h
    cases e
    exact ⟨fun d z => (by cases z), fun _ => rfl⟩
  | p :: r, _, o, h, e => by
    obtain ⟨k1, v, q, rfl, e1, h1, h2⟩ := h
    obtain ⟨c, e2, e⟩ := opt_some (show opt (eqD p.1 dk) (fun b => match b with | true => some (some p.2) | false => dLook dk r) = some o from e)
    have e3 := keyD_eq e1 ek e2
    cases c with
    | true =>
      cases e
      refine ⟨fun d z => ?_, fun z => (by cases z)⟩
      cases z
      exact ⟨v, valV_pos (of_decide_eq_true e3), h1⟩
    | false =>
      have ih := KvR.look ek h2 e
      rw [valV_neg (p := (k1, v)) (of_decide_eq_false e3)]
      exact ih
theorem putK_nil {κ : Type} [DecidableEq κ] (k : κ) (v : V) : putK ([] : List (κ × V)) k v = [(k, v)] := rfl
theorem putK_cons {κ : Type} [DecidableEq κ] (p : κ × V) (r : List (κ × V)) (hn : p.1 ∉ r.map (·.1)) (k : κ) (v : V) : putK (p :: r) k v = if p.1 = k then (p.1, v) :: r else p :: putK r k v := by
  unfold putK
  by_cases e : p.1 = k
  · rw [if_pos e, List.any_cons, decide_eq_true e, Bool.true_or, if_pos rfl, List.map_cons, if_pos e]
    congr 1
    have : ∀ l : List (κ × V), k ∉ l.map (·.1) → l.map (fun kv => if kv.1 = k then (kv.1, v) else kv) = l := by
      intro l
      induction l with
      | nil => intro _; rfl
      | cons a l ih =>
        intro h
        rw [List.map_cons, List.mem_cons, not_or] at h
        rw [List.map_cons, if_neg (fun z => h.1 z.symm), ih h.2]
    exact this r (by rw [← e]; exact hn)
  · rw [if_neg e, List.any_cons, decide_eq_false e, Bool.false_or]
    split
    · rw [List.map_cons, if_neg e]
    · rfl
theorem valV_mem {κ : Type} [DecidableEq κ] {k : κ} : ∀ {ks : List (κ × V)}, valV ks k = none ↔ k ∉ ks.map (·.1)
  | [] => by simp [valV_nil]
  | p :: r => by
    by_cases e : p.1 = k
    · rw [valV_pos e]
      simp [e]
    · rw [valV_neg e, valV_mem, List.map_cons, List.mem_cons, not_or]
      exact ⟨fun h => ⟨fun z => e z.symm, h⟩, fun h => h.2⟩
theorem putK_keys {κ : Type} [DecidableEq κ] (k : κ) (v : V) : ∀ (ks : List (κ × V)), (ks.map (·.1)).Nodup → ((putK ks k v).map (·.1)).Nodup ∧ ∀ x, x ∈ (putK ks k v).map (·.1) → x = k ∨ x ∈ ks.map (·.1)
  | [], _ => by
    rw [putK_nil]
    exact ⟨by simp, fun x h => .inl (by simpa using h)⟩
  | p :: r, hn => by
    rw [List.map_cons, List.nodup_cons] at hn
    rw [putK_cons p r hn.1]
    by_cases e : p.1 = k
    · rw [if_pos e]
      exact ⟨by rw [List.map_cons, List.nodup_cons]; exact hn, fun x h => .inr h⟩
    · rw [if_neg e]
      obtain ⟨i1, i2⟩ := putK_keys k v r hn.2
      refine ⟨?_, fun x h => ?_⟩
      · rw [List.map_cons, List.nodup_cons]
        refine ⟨fun z => ?_, i1⟩
        rcases i2 _ z with z | z
        · exact e z
        · exact hn.1 z
      · rw [List.map_cons, List.mem_cons] at h
        rcases h with h | h
        · exact .inr (by rw [h]; simp)
        · rcases i2 x h with z | z
          · exact .inl z
          · exact .inr (by simp [z])
theorem KvR.put {dk dv : D} {k : Key} {v : V} (ek : keyD dk = some k) (hv : DV g ρ H cl dv v) : ∀ {kvs q : List (D × D)} {ks : List (Key × V)}, (ks.map (·.1)).Nodup → KvR g ρ H cl kvs ks → dPut dk dv kvs = some q →
    KvR g ρ H cl q (putK ks k v) ∧ q ≠ [] ∧ (headD isKeyD kvs = true → headD isKeyD q = true) ∧ q.length ≤ kvs.length + 1
  | [], q, _, _, h, e => by
    have h : _ = [] := h
    subst h
    cases e
    rw [putK_nil]
    refine ⟨⟨k, v, [], rfl, ek, hv, rfl⟩, by simp, fun _ => ?_, by simp⟩
    cases dk <;> first | (cases ek; done) | rfl
  | p :: r, q, _, hn, h, e => by
    obtain ⟨k1, v1, ks, rfl, e1, h1, h2⟩ := h
    rw [List.map_cons, List.nodup_cons] at hn
    obtain ⟨c, e2, e⟩ := opt_some (show opt (eqD p.1 dk) (fun b => match b with | true => some ((p.1, dv) :: r) | false => opt (dPut dk dv r) fun q => some (p :: q)) = some q from e)
    have e3 := keyD_eq e1 ek e2
    rw [putK_cons (k1, v1) ks hn.1]
    cases c with
    | true =>
      cases e
      rw [if_pos (of_decide_eq_true e3)]
      exact ⟨⟨k1, v, ks, rfl, e1, hv, h2⟩, by simp, fun z => z, by simp⟩
    | false =>
      obtain ⟨q', e4, e⟩ := opt_some e
      cases e
      rw [if_neg (of_decide_eq_false e3)]
      obtain ⟨i1, i2, i3, i4⟩ := KvR.put ek hv hn.2 h2 e4
      exact ⟨⟨k1, v1, _, rfl, e1, h1, i1⟩, by simp, fun z => z, by simp; omega⟩
theorem KvR.length : ∀ {kvs : List (D × D)} {ks : List (Key × V)}, KvR g ρ H cl kvs ks → kvs.length = ks.length
  | [], _, h => by
    have h : _ = [] := h
    rw [h]
    rfl
  | p :: r, _, h => by
    obtain ⟨k1, v1, ks, rfl, e1, h1, h2⟩ := h
    rw [List.length_cons, List.length_cons, h2.length]
/-! nested keys -/
mutual
theorem nkD_eq : ∀ (x y : D) {a b : NestedKey} {c : Bool}, nkD x = some a → nkD y = some b → eqD x y = some c → decide (a = b) = c
  | .non, y, a, b, c, ha, hb, h => by
    cases ha
    cases y <;> first | (cases h; done) | skip
    all_goals first
      | (cases hb; cases h; rfl)
      | (cases hb; cases h; exact decide_eq_false (fun z => NestedKey.noConfusion z))
      | (obtain ⟨ps, _, e2⟩ := opt_some (show opt (nkDs _) (fun ks => some (NestedKey.tup ks)) = some b from hb); cases e2; cases h; exact decide_eq_false (fun z => NestedKey.noConfusion z))
  | .int i, y, a, b, c, ha, hb, h => by
    cases ha
    cases y <;> first | (cases h; done) | skip
    all_goals first
      | (cases hb; cases h; exact decide_eq_decide.mpr ⟨fun z => by injection z, fun z => by rw [z]⟩)
      | (cases hb; cases h; exact decide_eq_false (fun z => NestedKey.noConfusion z))
      | (obtain ⟨ps, _, e2⟩ := opt_some (show opt (nkDs _) (fun ks => some (NestedKey.tup ks)) = some b from hb); cases e2; cases h; exact decide_eq_false (fun z => NestedKey.noConfusion z))
  | .str i, y, a, b, c, ha, hb, h => by
    cases ha
    cases y <;> first | (cases h; done) | skip
    all_goals first
      | (cases hb; cases h; rw [eqS_dec]; exact decide_eq_decide.mpr ⟨fun z => by injection z, fun z => by rw [z]⟩)
      | (cases hb; cases h; exact decide_eq_false (fun z => NestedKey.noConfusion z))
      | (obtain ⟨ps, _, e2⟩ := opt_some (show opt (nkDs _) (fun ks => some (NestedKey.tup ks)) = some b from hb); cases e2; cases h; exact decide_eq_false (fun z => NestedKey.noConfusion z))
  | .tup xs, y, a, b, c, ha, hb, h => by
    obtain ⟨ps, e1, e2⟩ := opt_some (show opt (nkDs xs) (fun ks => some (NestedKey.tup ks)) = some a from ha)
    cases e2
    cases y <;> first | (cases h; done) | skip
    all_goals first
      | (cases hb; cases h; exact decide_eq_false (fun z => NestedKey.noConfusion z))
      | (obtain ⟨qs, e3, e4⟩ := opt_some (show opt (nkDs _) (fun ks => some (NestedKey.tup ks)) = some b from hb); cases e4; exact (decide_eq_decide.mpr ⟨fun z => by injection z, fun z => by rw [z]⟩).trans (nkDs_eq xs _ e1 e3 h))
  | .bl _, _, _, _, _, ha, _, _ => by cases ha
  | .ty _, _, _, _, _, ha, _, _ => by cases ha
  | .glo _, _, _, _, _, ha, _, _ => by cases ha
  | .loc _, _, _, _, _, ha, _, _ => by cases ha
  | .lam _ _, _, _, _, _, ha, _, _ => by cases ha
theorem nkDs_eq : ∀ (xs ys : List D) {as bs : List NestedKey} {c : Bool}, nkDs xs = some as → nkDs ys = some bs → eqDs xs ys = some c → decide (as = bs) = c
  | [], [], _, _, _, e1, e2, h => by
    cases e1
    cases e2
    cases h
    rfl
  | [], y :: r, _, qs, _, e1, e2, h => by
    cases e1
    obtain ⟨p, _, e2⟩ := opt_some (show opt (nkD y) (fun p => opt (nkDs r) fun q => some (p :: q)) = some qs from e2)
    obtain ⟨q, _, e4⟩ := opt_some e2
    cases e4
    cases h
    exact decide_eq_false (fun z => by cases z)
  | x :: xs, [], ps, _, _, e1, e2, h => by
    cases e2
    obtain ⟨p, _, e2⟩ := opt_some (show opt (nkD x) (fun p => opt (nkDs xs) fun q => some (p :: q)) = some ps from e1)
    obtain ⟨q, _, e4⟩ := opt_some e2
    cases e4
    cases h
    exact decide_eq_false (fun z => by cases z)
  | x :: xs, y :: ys, ps, qs, b, e1, e2, h => by
    obtain ⟨p, f1, e1⟩ := opt_some (show opt (nkD x) (fun p => opt (nkDs xs) fun q => some (p :: q)) = some ps from e1)
    obtain ⟨pr, f2, e1⟩ := opt_some e1
    cases e1
    obtain ⟨q, f3, e2⟩ := opt_some (show opt (nkD y) (fun p => opt (nkDs ys) fun q => some (p :: q)) = some qs from e2)
    obtain ⟨qr, f4, e2⟩ := opt_some e2
    cases e2
    obtain ⟨c, h1, h⟩ := opt_some (show opt (eqD x y) (fun b => match b with | true => eqDs xs ys | false => some false) = some b from h)
    have h2 := nkD_eq x y f1 f3 h1
    cases c with
    | true =>
      have e := of_decide_eq_true h2
      subst e
      exact (decide_eq_decide.mpr ⟨fun z => (List.cons.inj z).2, fun z => by rw [z]⟩).trans (nkDs_eq xs ys f2 f4 h)
    | false =>
      cases h
      exact decide_eq_false fun z => of_decide_eq_false h2 (List.cons.inj z).1
end
theorem NvR.look {dk : D} {k : NestedKey} (ek : nkD dk = some k) : ∀ {kvs : List (D × D)} {xs : List (NestedKey × Addr × Value)} {o : Option D}, NvR g ρ H cl kvs xs → dLook dk kvs = some o →
    (∀ d, o = some d → ∃ p v, atKey xs k = some p ∧ RelV v p.2 ∧ DV g ρ H cl d v) ∧ (o = none → atKey xs k = none)
  | [], _, o, h, e => by
    have h : _ = [] := h
    subst h
    cases e
    exact ⟨fun d z => (by cases z), fun _ => rfl⟩
  | p :: r, _, o, h, e => by
    obtain ⟨nk, ka, u, v, q, rfl, _, e1, _, _, hr, h1, h2⟩ := h
    obtain ⟨c, e2, e⟩ := opt_some (show opt (eqD p.1 dk) (fun b => match b with | true => some (some p.2) | false => dLook dk r) = some o from e)
    have e3 := nkD_eq _ _ e1 ek e2
    cases c with
    | true =>
      cases e
      refine ⟨fun d z => ?_, fun z => (by cases z)⟩
      cases z
      exact ⟨(ka, u), v, by simp [atKey, of_decide_eq_true e3], hr, h1⟩
    | false =>
      have ih := NvR.look ek h2 e
      have e5 : atKey ((nk, ka, u) :: q) k = atKey q k := by simp [atKey, List.find?_cons, of_decide_eq_false e3]
      rw [e5]
      exact ih
theorem storedH_cons (p : NestedKey × Addr × Value) (r : List (NestedKey × Addr × Value)) (hn : p.1 ∉ r.map (·.1)) (k : NestedKey) (a : Addr) (u : Value) : storedH (p :: r) k a u = if p.1 = k then (p.1, p.2.1, u) :: r else p :: storedH r k a u := by
  by_cases e : p.1 = k
  · rw [if_pos e]
    have e1 : atKey (p :: r) k = some p.2 := by simp [atKey, List.find?_cons, e]
    rw [storedH_old e1, List.map_cons]
    have e2 : r.map (putAt k u) = r := map_putAt_of_not_mem r k u (by rw [← e]; exact hn)
    rw [e2]
    simp [putAt, e]
  · rw [if_neg e]
    have e1 : atKey (p :: r) k = atKey r k := by simp [atKey, List.find?_cons, e]
    unfold storedH
    rw [e1]
    split
    · rw [List.map_cons]
      simp [putAt, e]
    · rfl
theorem NvR.put {dk dv : D} {k : NestedKey} {ka : Addr} {v : V} {u : Value} (et : isTupD dk = true) (ek : nkD dk = some k) (hd : k.depth ≤ 8) (hk : DV g ρ H cl dk (.ref ka)) (hr : RelV v u) (hv : DV g ρ H cl dv v) : ∀ {kvs q : List (D × D)} {xs : List (NestedKey × Addr × Value)},
    (xs.map (·.1)).Nodup → NvR g ρ H cl kvs xs → dPut dk dv kvs = some q → NvR g ρ H cl q (storedH xs k ka u) ∧ q ≠ [] ∧ q.length ≤ kvs.length + 1 ∧ ((storedH xs k ka u).map (·.1)).Nodup ∧ ∀ x, x ∈ (storedH xs k ka u).map (·.1) → x = k ∨ x ∈ xs.map (·.1)
  | [], q, _, _, h, e => by
    have h : _ = [] := h
    subst h
    cases e
    rw [storedH_new rfl]
    exact ⟨⟨k, ka, u, v, [], rfl, et, ek, hd, hk, hr, hv, rfl⟩, by simp, by simp, by simp, fun x h => .inl (by simpa using h)⟩
  | p :: r, q, _, hn, h, e => by
    obtain ⟨nk, ka1, u1, v1, xs, rfl, et1, e1, hd1, hk1, hr1, h1, h2⟩ := h
    rw [List.map_cons, List.nodup_cons] at hn
    obtain ⟨c, e2, e⟩ := opt_some (show opt (eqD p.1 dk) (fun b => match b with | true => some ((p.1, dv) :: r) | false => opt (dPut dk dv r) fun q => some (p :: q)) = some q from e)
    have e3 := nkD_eq _ _ e1 ek e2
    rw [storedH_cons _ _ hn.1]
    cases c with
    | true =>
      cases e
      rw [if_pos (of_decide_eq_true e3)]
      exact ⟨⟨nk, ka1, u, v, xs, rfl, et1, e1, hd1, hk1, hr, hv, h2⟩, by simp, by simp, by rw [List.map_cons, List.nodup_cons]; exact hn, fun x h => .inr h⟩
    | false =>
      obtain ⟨q', e4, e⟩ := opt_some e
      cases e
      rw [if_neg (of_decide_eq_false e3)]
      obtain ⟨i1, i2, i3, i4, i5⟩ := NvR.put et ek hd hk hr hv hn.2 h2 e4
      refine ⟨⟨nk, ka1, u1, v1, _, rfl, et1, e1, hd1, hk1, hr1, h1, i1⟩, by simp, by simp; omega, ?_, fun x h => ?_⟩
      · rw [List.map_cons, List.nodup_cons]
        refine ⟨fun z => ?_, i4⟩
        rcases i5 _ z with z | z
        · exact of_decide_eq_false e3 z
        · exact hn.1 z
      · rw [List.map_cons, List.mem_cons] at h
        rcases h with h | h
        · exact .inr (by rw [h]; simp)
        · rcases i5 x h with z | z
          · exact .inl z
          · exact .inr (by simp [z])
theorem NvR.length : ∀ {kvs : List (D × D)} {xs : List (NestedKey × Addr × Value)}, NvR g ρ H cl kvs xs → kvs.length = xs.length
  | [], _, h => by
    have h : _ = [] := h
    rw [h]
    rfl
  | p :: r, _, h => by
    obtain ⟨nk, ka, u, v, q, rfl, _, _, _, _, _, _, h2⟩ := h
    rw [List.length_cons, List.length_cons, h2.length]
end
/-! the values that stand for nested keys -/
section
variable {g : G} {X : Cx} {ρ : List Addr} {H : Hp} {cl : Cl} {pins : List (Addr × Obj)} {σ : L2.St} {s : Shared}
mutual
theorem DV.nested (hK : X.K = g.K) (I : Inv X pins σ H s) : ∀ (d : D) {k : NestedKey} {v : V} {u : Value}, nkD d = some k → DV g ρ H cl d v → RelV v u → NestedIs s.heap k u
  | .non, k, v, u, e, h, r => by
    cases e
    have h : v = .non := h
    subst h
    cases r
    exact .none
  | .int i, k, v, u, e, h, r => by
    cases e
    have h : v = .int i := h
    subst h
    obtain ⟨t, rfl⟩ := r
    exact .int i t
  | .str i, k, v, u, e, h, r => by
    cases e
    have h : v = .str i := h
    subst h
    obtain ⟨t, rfl⟩ := r
    exact .text i t
  | .tup ds, k, v, u, e, h, r => by
    obtain ⟨ks, e1, e2⟩ := opt_some (show opt (nkDs ds) (fun ks => some (NestedKey.tup ks)) = some k from e)
    cases e2
    obtain ⟨a, vs, rfl, h1, h2⟩ := h
    cases r
    rw [← hK] at h1
    obtain ⟨its, rv, ⟨o, ho, hc, n, hd⟩, _⟩ := I.tuple h1.sq
    exact .tup ho hc hd (by simpa using DVs.nested hK I ds e1 h2 rv)
  | .bl _, _, _, _, e, _, _ => by cases e
  | .ty _, _, _, _, e, _, _ => by cases e
  | .glo _, _, _, _, e, _, _ => by cases e
  | .loc _, _, _, _, e, _, _ => by cases e
  | .lam _ _, _, _, _, e, _, _ => by cases e
theorem DVs.nested (hK : X.K = g.K) (I : Inv X pins σ H s) : ∀ (ds : List D) {ks : List NestedKey} {vs : List V} {us : List Value}, nkDs ds = some ks → DVs g ρ H cl ds vs → Vals vs us → NestedAll s.heap ks us
  | [], ks, vs, us, e, h, r => by
    cases e
    have h : vs = [] := h
    subst h
    cases r
    exact .nil
  | d :: ds, ks, vs, us, e, h, r => by
    obtain ⟨k, e1, e⟩ := opt_some (show opt (nkD d) (fun p => opt (nkDs ds) fun q => some (p :: q)) = some ks from e)
    obtain ⟨q, e2, e⟩ := opt_some e
    cases e
    obtain ⟨v, vr, rfl, h1, h2⟩ := h
    cases r with
    | cons r1 r2 => exact .cons (DV.nested hK I d e1 h1 r1) (DVs.nested hK I ds e2 h2 r2)
end
mutual
theorem dep_le : ∀ (d : D) {k : NestedKey}, nkD d = some k → k.depth ≤ depD d
  | .tup ds, k, h => by
    obtain ⟨ks, e, h⟩ := opt_some (show opt (nkDs ds) (fun ks => some (NestedKey.tup ks)) = some k from h)
    cases h
    exact Nat.succ_le_succ (deps_le ds e)
  | .non, k, h => by cases h; first | exact Nat.zero_le _ | exact Nat.le_refl _
  | .int _, k, h => by cases h; first | exact Nat.zero_le _ | exact Nat.le_refl _
  | .str _, k, h => by cases h; first | exact Nat.zero_le _ | exact Nat.le_refl _
  | .bl _, k, h => by cases h
  | .ty _, k, h => by cases h
  | .glo _, k, h => by cases h
  | .loc _, k, h => by cases h
  | .lam _ _, k, h => by cases h
theorem deps_le : ∀ (ds : List D) {ks : List NestedKey}, nkDs ds = some ks → NestedKey.depthAll ks ≤ depDs ds
  | [], ks, h => by
    cases h
    exact Nat.zero_le _
  | d :: r, ks, h => by
    obtain ⟨k, e1, h⟩ := opt_some (show opt (nkD d) (fun k => opt (nkDs r) fun q => some (k :: q)) = some ks from h)
    obtain ⟨q, e2, h⟩ := opt_some h
    cases h
    have h1 := dep_le d e1
    have h2 := deps_le r e2
    show max k.depth (NestedKey.depthAll q) ≤ max (depD d) (depDs r)
    omega
end
theorem nkOk_some {d : D} (h : nkOk d = true) : ∃ k, nkD d = some k ∧ k.depth ≤ 8 := by
  unfold nkOk at h
  cases e : nkD d with
  | none =>
    rw [e] at h
    cases h
  | some k =>
    rw [e] at h
    exact ⟨k, rfl, Nat.le_trans (dep_le d e) (Nat.le_of_ble_eq_true h)⟩
/-- a dict of nested keys in the heap: the empty one too -/
theorem dictN_at (hP : X.prog = g.P) (hw : X.w = g.w) (hK : X.K = g.K) (I : Inv X pins σ H s) {a : Addr} {kvs : List (D × D)} (h : OR g ρ H cl (.dct kvs) a) (ht : headD isTupD kvs = true) :
    (a == sysModules) = false ∧ kvs.length ≤ sizeLine ∧ ∃ xs, NvR g ρ H cl kvs xs ∧ (xs.map (·.1)).Nodup ∧ s.heap.DictOfH (nestedKind X.prog X.w) a xs := by
  rcases h with ⟨h0, ks, h1, hn, h2⟩ | ⟨h0, o, es, ep, xs, h1, h2, h3, h4, h5, h6, h7, h8⟩
  · cases kvs with
    | cons p r =>
      have h0 : isKeyD p.1 = true := h0
      have ht : isTupD p.1 = true := ht
      cases hp : p.1 <;> rw [hp] at h0 ht <;> first | (cases h0; done) | (cases ht; done)
    | nil =>
      have h2 : ks = [] := h2
      subst h2
      obtain ⟨z, hd, vs, rel, dd⟩ := dk_of I.hok h1
      cases rel
      obtain ⟨o, es, ep, e1, e2, e3, _, e4, _⟩ := dd
      refine ⟨hd, Nat.zero_le _, [], rfl, by simp, o, es, ep, e1, e2, e3, ?_, fun x hx => absurd hx (by simp), by simp⟩
      generalize es.toList = l at e4
      cases e4
      rfl
  · obtain ⟨e1, _, _⟩ := I.hok a _ h1
    have e1 : s.heap.get? a = some o := e1
    rw [hP, hw]
    refine ⟨h2, h3, xs, h8, h7, o, es, ep, e1, h4, h5, h6, fun x hx => ?_, h7⟩
    have all : ∀ {kvs : List (D × D)} {xs : List (NestedKey × Addr × Value)}, NvR g ρ H cl kvs xs → ∀ x ∈ xs, (nestedKind g.P g.w).is s.heap x.1 x.2.1 := by
      intro kvs
      induction kvs with
      | nil =>
        intro xs h x hx
        have h : xs = [] := h
        rw [h] at hx
        exact absurd hx (by simp)
      | cons p r ih =>
        intro xs h x hx
        obtain ⟨nk, ka, u, v, q, rfl, _, e1, hd, hk, _, _, h2⟩ := h
        rcases List.mem_cons.mp hx with e | hx
        · subst e
          exact ⟨DV.nested hK I _ e1 hk rfl, hd⟩
        · exact ih h2 x hx
    exact all h8 x hx
/-! the dict by values: either kind -/
/-- a key and what a dict holds at it -/
theorem okKey_cases {kvs : List (D × D)} {k : D} (h : okKey kvs k = true) : (isKeyD k = true ∧ headD isKeyD kvs = true) ∨ (isTupD k = true ∧ headD isTupD kvs = true ∧ nkOk k = true) := by
  unfold okKey at h
  cases e : isKeyD k with
  | true =>
    rw [e] at h
    exact .inl ⟨rfl, h⟩
  | false =>
    rw [e] at h
    simp only [Bool.and_eq_true] at h
    exact .inr ⟨h.1.1, h.1.2, h.2⟩
theorem nested_room {k : Nat} (hr : Room k X.A) : (nestedKind X.prog X.w).room X.A.in1 := by
  have := hr.un
  show X.A.units + 1 + 8 < cLine
  omega
theorem tup_ref {d : D} {v : V} (h : isTupD d = true) (hv : DV g ρ H cl d v) : ∃ b, v = .ref b := by
  cases d <;> first | (cases h; done) | skip
  obtain ⟨a, _, e, _⟩ := hv
  exact ⟨a, e⟩
/-- what the dict at a holds at the key is asked -/
theorem dk_first {kvs : List (D × D)} {a : Addr} (h : OR g ρ H cl (.dct kvs) a) (hk : headD isKeyD kvs = true) : ∃ ks, H a = some (.dK ks) ∧ (ks.map (·.1)).Nodup ∧ KvR g ρ H cl kvs ks := by
  rcases h with ⟨_, h⟩ | ⟨h0, o, es, ep, xs, _, _, _, _, _, _, _, h8⟩
  · exact h
  · cases kvs with
    | nil => exact absurd rfl h0
    | cons p r =>
      obtain ⟨nk, ka, u, v, q, _, et, _⟩ := h8
      have hk : isKeyD p.1 = true := hk
      cases hp : p.1 <;> rw [hp] at hk et <;> first | (cases hk; done) | (cases et; done)
end
section
variable {g : G} {X : Cx} {k : Nat}
/-- k in d -/
theorem o_dictIn (hP : X.prog = g.P) (hw : X.w = g.w) (hK : X.K = g.K) (hr : Room k X.A) (f : Bool → Bool) {op : CmpOp}
    (hd : ∀ {pins σ H s a y u o}, Inv X pins σ H s → DGet H a y o → RelV y u → ∀ Q : Value → Shared → Prop, (∀ s', Inv X pins σ H s' → Q (.bool (f o.isSome)) s') → wpAny (model X.prog X.w) X.A (compareOp op u (.ref a)) Q X.xe s)
    (hn : ∀ {s : Shared} {d a : Addr} {nk : NestedKey} {xs : List (NestedKey × Addr × Value)} (Q : Value → Shared → Prop), (nestedKind X.prog X.w).room X.A.in1 → (nestedKind X.prog X.w).is s.heap nk a → (d == sysModules) = false → s.heap.DictOfH (nestedKind X.prog X.w) d xs →
      Q (.bool (f (atKey xs nk).isSome)) { s with toks := s.toks + (nestedKind X.prog X.w).draws nk } → wpAny (model X.prog X.w) X.A (compareOp op (.ref a) (.ref d)) Q X.xe s) :
    OpR X (compareOp op) (fun x y H Q => ∃ cl ρ S σd σ dk n kvs o, Sim g cl ρ S H σd σ ∧ DV g ρ H cl dk x ∧ DV g ρ H cl (.loc n) y ∧ S[n]? = some (.dct kvs) ∧ dGet dk kvs = some o ∧ Q (.bl (f o.isSome)) H) := by
  intro pins s σ H x y v u Q I rx ry h
  obtain ⟨cl, ρ, S, σd, σ', dk, n, kvs, o, M, h1, h2, h3, h4, q⟩ := h
  obtain ⟨a, e1, ho⟩ := M.rel.addr h3
  obtain ⟨b, e2, rfl⟩ := h2
  rw [e1] at e2
  cases e2
  cases ry
  obtain ⟨hk, h4⟩ := grd_some h4
  rcases okKey_cases hk with ⟨k1, k2⟩ | ⟨k1, k2, k3⟩
  · obtain ⟨ks, hH, _, hR⟩ := dk_first ho k2
    obtain ⟨kk, ek⟩ := isKey_keyD k1
    obtain ⟨l1, l2⟩ := hR.look ek h4
    have ex := h1.key ek
    subst ex
    refine hd I (DGet.k (k := kk) hH) rx _ fun s' I' => ⟨.bl (f o.isSome), H, I', ?_, q⟩
    cases o with
    | none => rw [l2 rfl] <;> rfl
    | some d =>
      obtain ⟨w', e, _⟩ := l1 d rfl
      rw [e] <;> rfl
  · obtain ⟨hs, hl, xs, hR, hnd, hD⟩ := dictN_at hP hw hK I ho k2
    obtain ⟨nk, en, hdp⟩ := nkOk_some k3
    obtain ⟨b, rfl⟩ := tup_ref k1 h1
    cases rx
    obtain ⟨l1, l2⟩ := hR.look en h4
    refine hn _ (nested_room hr) ⟨DV.nested hK I _ en h1 rfl, hdp⟩ hs hD ⟨.bl (f o.isSome), H, I.tok _, ?_, q⟩
    cases o with
    | none => rw [l2 rfl] <;> rfl
    | some d =>
      obtain ⟨p, w', e, _⟩ := l1 d rfl
      rw [e] <;> rfl
theorem o_dIn (hP : X.prog = g.P) (hw : X.w = g.w) (hK : X.K = g.K) (hr : Room k X.A) : OpR X (compareOp .In) (fun x y H Q => ∃ cl ρ S σd σ dk n kvs o, Sim g cl ρ S H σd σ ∧ DV g ρ H cl dk x ∧ DV g ρ H cl (.loc n) y ∧ S[n]? = some (.dct kvs) ∧ dGet dk kvs = some o ∧ Q (.bl o.isSome) H) :=
  o_dictIn hP hw hK hr (fun b => b) (fun I hd ry Q h => d_in (by have := hr.un; omega) I hd ry h) fun Q h1 h2 h3 h4 h5 => wpAny_in_heap h1 h2 h3 h4 h5
theorem o_dNotIn (hP : X.prog = g.P) (hw : X.w = g.w) (hK : X.K = g.K) (hr : Room k X.A) : OpR X (compareOp .NotIn) (fun x y H Q => ∃ cl ρ S σd σ dk n kvs o, Sim g cl ρ S H σd σ ∧ DV g ρ H cl dk x ∧ DV g ρ H cl (.loc n) y ∧ S[n]? = some (.dct kvs) ∧ dGet dk kvs = some o ∧ Q (.bl (!o.isSome)) H) :=
  o_dictIn hP hw hK hr (fun b => !b) (fun I hd ry Q h => d_notIn (by have := hr.un; omega) I hd ry h) fun Q h1 h2 h3 h4 h5 => wpAny_notIn_heap h1 h2 h3 h4 h5
/-- membership, by what the right side is -/
inductive InRed (g : G) (H : Hp) (x y : V) (b : Bool) : Prop
  | sign (c : Nat) (z : Str) : x = .str ⟨#[c]⟩ → y = .str z → decide (c ∈ z.cps.toList) = b → InRed g H x y b
  | flat (p : Addr) (xs : List V) : y = .ref p → (SqL g.K H p xs ∨ SqT g.K H p xs) → flatV x = true → xs.all flatV = true → inV x xs = b → InRed g H x y b
  | lst (d : PyData) (ds : List PyData) : Dp g.K H x d → Dp g.K H y (.list ds) → SeqAt.shaped d = true → SeqAt.shaped (.list ds) = true → (ds.any fun z => PyData.eqv z d) = b → InRed g H x y b
  | tup (d : PyData) (ds : List PyData) : Dp g.K H x d → Dp g.K H y (.tuple ds) → SeqAt.shaped d = true → SeqAt.shaped (.tuple ds) = true → (ds.any fun z => PyData.eqv z d) = b → InRed g H x y b
  | dict : (∃ cl ρ S σd σ dk n kvs o, Sim g cl ρ S H σd σ ∧ DV g ρ H cl dk x ∧ DV g ρ H cl (.loc n) y ∧ S[n]? = some (.dct kvs) ∧ dGet dk kvs = some o ∧ o.isSome = b) → InRed g H x y b
theorem o_in0 (hP : X.prog = g.P) (hw : X.w = g.w) (hK : X.K = g.K) (hr : Room k X.A) (red : ∀ cl ρ S H σd σ dx dy x y b, Sim g cl ρ S H σd σ → DV g ρ H cl dx x → DV g ρ H cl dy y → inD S dx dy = some b → InRed g H x y b) :
    OpR X (compareOp .In) (rC2 g fun S => cmpD S .In) ∧ OpR X (compareOp .NotIn) (rC2 g fun S => cmpD S .NotIn) := by
  have hu : X.A.units + 65 < cLine := by have := hr.un; omega
  constructor
  · refine OpR.imp (L2.OpR.or op_in_sign (L2.OpR.or op_in_seq (L2.OpR.or (op_inD hu) (L2.OpR.or (op_inDT hu) (o_dIn hP hw hK hr))))) fun x y H Q h => ?_
    obtain ⟨cl, ρ, S, σd, σ, dx, dy, b, M, h1, h2, h3, q⟩ := h
    rcases red cl ρ S H σd σ dx dy x y b M h1 h2 h3 with ⟨c, z, e1, e2, e3⟩ | ⟨p, xs, e1, e2, e3, e4, e5⟩ | ⟨d, ds, e1, e2, e3, e4, e5⟩ | ⟨d, ds, e1, e2, e3, e4, e5⟩ | ⟨cl', ρ', S', σd', σ', dk, n, kvs, o, M', z1, z2, z3, z4, z5⟩
    · exact .inl ⟨c, z, e1, e2, by rw [e3]; exact q⟩
    · rw [← hK] at e2
      exact .inr (.inl ⟨p, xs, e1, e2, e3, e4, by rw [if_neg Bool.false_ne_true, e5]; exact q⟩)
    · rw [← hK] at e1 e2
      exact .inr (.inr (.inl ⟨d, ds, e1, e2, e3, e4, by rw [e5]; exact q⟩))
    · rw [← hK] at e1 e2
      exact .inr (.inr (.inr (.inl ⟨d, ds, e1, e2, e3, e4, by rw [e5]; exact q⟩)))
    · exact .inr (.inr (.inr (.inr ⟨cl', ρ', S', σd', σ', dk, n, kvs, o, M', z1, z2, z3, z4, by rw [z5]; exact q⟩)))
  · refine OpR.imp (L2.OpR.or op_notIn_sign (L2.OpR.or op_notIn_seq (L2.OpR.or (op_notInD hu) (L2.OpR.or (op_notInDT hu) (o_dNotIn hP hw hK hr))))) fun x y H Q h => ?_
    obtain ⟨cl, ρ, S, σd, σ, dx, dy, b, M, h1, h2, h3, q⟩ := h
    obtain ⟨b, h4, rfl⟩ := notO_some h3
    rcases red cl ρ S H σd σ dx dy x y b M h1 h2 h4 with ⟨c, z, e1, e2, e3⟩ | ⟨p, xs, e1, e2, e3, e4, e5⟩ | ⟨d, ds, e1, e2, e3, e4, e5⟩ | ⟨d, ds, e1, e2, e3, e4, e5⟩ | ⟨cl', ρ', S', σd', σ', dk, n, kvs, o, M', z1, z2, z3, z4, z5⟩
    · exact .inl ⟨c, z, e1, e2, by rw [e3]; exact q⟩
    · rw [← hK] at e2
      exact .inr (.inl ⟨p, xs, e1, e2, e3, e4, by rw [if_pos rfl, e5]; exact q⟩)
    · rw [← hK] at e1 e2
      exact .inr (.inr (.inl ⟨d, ds, e1, e2, e3, e4, by rw [e5]; exact q⟩))
    · rw [← hK] at e1 e2
      exact .inr (.inr (.inr (.inl ⟨d, ds, e1, e2, e3, e4, by rw [e5]; exact q⟩)))
    · exact .inr (.inr (.inr (.inr ⟨cl', ρ', S', σd', σ', dk, n, kvs, o, M', z1, z2, z3, z4, by rw [z5]; exact q⟩)))
theorem in_red {cl : Cl} {ρ : List Addr} {S : Sto} {H : Hp} {σd : Env1} {σ : L2.St} {dx dy : D} {x y : V} {b : Bool} (M : Sim g cl ρ S H σd σ) (h1 : DV g ρ H cl dx x) (h2 : DV g ρ H cl dy y) (h : inD S dx dy = some b) : InRed g H x y b := by
  have mem : ∀ {ds : List D} {vs : List V} {p : Addr}, y = .ref p → DVs g ρ H cl ds vs → (SqL g.K H p vs ∨ SqT g.K H p vs) → memC dx ds = some b → InRed g H x y b := fun {ds vs p} ey hd hs hm => by
    unfold memC at hm
    cases e : flatD dx && flatDs ds with
    | true =>
      rw [e] at hm
      obtain ⟨f1, f2⟩ := Bool.and_eq_true_iff.mp e
      exact .flat p vs ey hs (flat_of f1 h1) (flats_of f2 hd) (memD_flat f1 h1 f2 hd hm)
    | false =>
      rw [e] at hm
      obtain ⟨q, e1, hm⟩ := opt_some hm
      obtain ⟨qs, e2, hm⟩ := opt_some hm
      obtain ⟨e3, hm⟩ := grd_some hm
      simp only [Bool.and_eq_true] at e3
      obtain ⟨⟨e3, e4⟩, e5⟩ := e3
      rcases hs with hs | hs
      · exact .lst q qs (h1.dp _ e1) (by rw [ey]; exact .lst hs (DVs.dp _ e2 hd)) e3 e4 (memD_data e1 e2 hm)
      · exact .tup q qs (h1.dp _ e1) (by rw [ey]; exact .tup hs (DVs.dp _ e2 hd)) e3 e5 (memD_data e1 e2 hm)
  unfold inD at h
  cases dy with
  | str t =>
    obtain ⟨z, e, h⟩ := opt_some h
    have hx := h1.str e
    cases hc : z.cps.toList with
    | nil =>
      rw [hc] at h
      cases h
    | cons c r =>
      cases r with
      | cons _ _ =>
        rw [hc] at h
        cases h
      | nil =>
        rw [hc] at h
        cases h
        refine .sign c t ?_ h2 (mem1_dec c _).symm
        rw [hx]
        cases z with
        | mk a =>
          cases a with
          | mk l =>
            have : l = [c] := hc
            rw [this]
  | tup ds =>
    obtain ⟨a, vs, rfl, q1, q2⟩ := h2
    exact mem rfl q2 (.inr q1.sq) h
  | loc n =>
    obtain ⟨o, e, h⟩ := opt_some h
    rw [nth_eq] at e
    cases o with
    | lst ds =>
      obtain ⟨a, e1, vs, q1, q2⟩ := M.rel.addr e
      obtain ⟨a', e2, rfl⟩ := h2
      rw [e1] at e2
      cases e2
      exact mem rfl q2 (.inl (SqL.of q1)) h
    | dct kvs =>
      obtain ⟨o, e3, h⟩ := opt_some h
      refine .dict ⟨cl, ρ, S, σd, σ, dx, n, kvs, o, M, h1, h2, e, e3, ?_⟩
      cases o <;> (cases h; rfl)
    | _ => cases h
  | _ => cases h
theorem o_in (hP : X.prog = g.P) (hw : X.w = g.w) (hK : X.K = g.K) (hr : Room k X.A) : OpR X (compareOp .In) (rC2 g fun S => cmpD S .In) := (o_in0 hP hw hK hr fun _ _ _ _ _ _ _ _ _ _ _ M h1 h2 h => in_red M h1 h2 h).1
theorem o_notIn (hP : X.prog = g.P) (hw : X.w = g.w) (hK : X.K = g.K) (hr : Room k X.A) : OpR X (compareOp .NotIn) (rC2 g fun S => cmpD S .NotIn) := (o_in0 hP hw hK hr fun _ _ _ _ _ _ _ _ _ _ _ M h1 h2 h => in_red M h1 h2 h).2
theorem o_none {op : Operator} (h : ∀ x y S, binD op x y S = none) : OpR X (binaryOp op) (rD2 g (binD op)) := fun pins s σ H x y v u Q I rx ry q => by
  obtain ⟨cl, ρ, S, σd, σ', dx, dy, d, S1, M, h1, h2, h3, F⟩ := q
  rw [h] at h3
  cases h3
/-- any comparison -/
theorem o_cmp (hP : X.prog = g.P) (hw : X.w = g.w) (hK : X.K = g.K) (hr : Room k X.A) : ∀ op : CmpOp, OpR X (compareOp op) (rC2 g fun S => cmpD S op)
  | .Eq => o_eq hK hr
  | .NotEq => o_ne hK hr
  | .Lt => o_lt hK hr
  | .LtE => o_le
  | .Gt => o_gt
  | .GtE => o_ge
  | .Is => o_is
  | .IsNot => o_isnot
  | .In => o_in hP hw hK hr
  | .NotIn => o_notIn hP hw hK hr
/-- any operator -/
theorem o_bin (hK : X.K = g.K) : ∀ op : Operator, OpR X (binaryOp op) (rD2 g (binD op))
  | .Add => o_add hK
  | .Sub => o_sub
  | .Mult => o_mul hK
  | .FloorDiv => o_fdiv
  | .Mod => o_mod
  | .BitAnd => o_and
  | .BitOr => o_or
  | .LShift => o_shl
  | .MatMult => o_none fun _ _ _ => rfl
  | .Div => o_none fun _ _ _ => rfl
  | .Pow => o_none fun _ _ _ => rfl
  | .RShift => o_none fun _ _ _ => rfl
  | .BitXor => o_none fun _ _ _ => rfl
end
end K76
end

/-! text Ops4 -/
section
namespace K76
open PySem PySem.Spec PyProof.Rows L2

/-! ### subscripts -/
theorem atL_eq {α : Type} (xs : List α) (i : Int) : atL xs i = atI xs i := by
  cases i with
  | ofNat k =>
    show nth xs k = _
    rw [nth_eq]
    unfold atI ixN
    have h0 : (0 : Int) ≤ Int.ofNat k := Int.natCast_nonneg k
    rw [if_pos h0]
    by_cases h : (Int.ofNat k) < (xs.length : Int)
    · rw [if_pos h]
      rfl
    · rw [if_neg h]
      have : xs.length ≤ k := by
        have h : ¬ ((k : Int) < (xs.length : Int)) := h
        omega
      rw [List.getElem?_eq_none this]
      rfl
  | negSucc k =>
    show (match Nat.ble (k + 1) xs.length with | true => nth xs (xs.length - (k + 1)) | false => none) = _
    unfold atI ixN
    rw [if_neg (by omega)]
    by_cases h : k + 1 ≤ xs.length
    · rw [Nat.ble_eq_true_of_le h, if_pos (by omega)]
      show nth xs (xs.length - (k + 1)) = xs[(Int.negSucc k + (xs.length : Int)).toNat]?
      rw [nth_eq]
      congr 1
      omega
    · have hb : Nat.ble (k + 1) xs.length = false := by
        cases e : Nat.ble (k + 1) xs.length with
        | false => rfl
        | true => exact absurd (Nat.le_of_ble_eq_true e) h
      rw [hb, if_neg (by omega)]
      rfl
theorem clampI_eq (n d : Nat) (i : Int) : clampI n i = HT.sIx n d (some i) := by
  show clampI n i = if i < 0 then (i + (n : Int)).toNat else min i.toNat n
  cases i with
  | ofNat k =>
    have h0 : ¬ (Int.ofNat k < 0) := by
      have : (0 : Int) ≤ Int.ofNat k := Int.natCast_nonneg k
      omega
    rw [if_neg h0]
    show (match Nat.ble k n with | true => k | false => n) = min k n
    cases e : Nat.ble k n with
    | true => exact (Nat.min_eq_left (Nat.le_of_ble_eq_true e)).symm
    | false =>
      have : ¬ k ≤ n := fun h => by rw [Nat.ble_eq_true_of_le h] at e; cases e
      show n = min k n
      omega
  | negSucc k =>
    rw [if_pos (by omega)]
    show n - (k + 1) = (Int.negSucc k + (n : Int)).toNat
    omega
theorem cutL_eq {α : Type} (xs : List α) (lo hi : Option Int) : cutL xs lo hi = (xs.drop (HT.sIx xs.length 0 lo)).take (HT.sIx xs.length xs.length hi - HT.sIx xs.length 0 lo) := by
  unfold cutL
  cases lo <;> cases hi <;> simp only [clampI_eq xs.length 0, ← clampI_eq xs.length xs.length, HT.sIx_none]
theorem okStr_le {s : Str} (h : okStr s = true) : s.length ≤ sizeLine := by
  have : s.cps.size < 16000000 := Nat.lt_of_succ_le (Nat.le_of_ble_eq_true h)
  exact line16 this
section
variable {g : G} {X : Cx} {k : Nat}
/-- the reading of x[y] -/
def rI2 (g : G) : R2 := fun x y H Q => ∃ cl ρ S σd σ dx dy d, Sim g cl ρ S H σd σ ∧ DV g ρ H cl dx x ∧ DV g ρ H cl dy y ∧ ixD S dx dy = some d ∧ ∀ v, DV g ρ H cl d v → Q v H
theorem IxR.imp {X : Cx} {r r' : R2} (h : IxR X r) (i : ∀ x y H Q, r' x y H Q → r x y H Q) : IxR X r' :=
  fun value slice pins s σ H x y v u Q I rx ry q hs => h value slice pins s σ H x y v u Q I rx ry (i _ _ _ _ q) hs
/-- d[k] -/
theorem ix_dict (hP : X.prog = g.P) (hw : X.w = g.w) (hK : X.K = g.K) (hr : Room k X.A) : IxR X (fun x y H Q => ∃ cl ρ S σd σ dk n kvs d, Sim g cl ρ S H σd σ ∧ DV g ρ H cl dk y ∧ DV g ρ H cl (.loc n) x ∧ S[n]? = some (.dct kvs) ∧ dGet dk kvs = some (some d) ∧ ∀ v, DV g ρ H cl d v → Q v H) := by
  intro value slice pins s σ H x y v u Q I rx ry h hsl
  obtain ⟨cl, ρ, S, σd, σ', dk, n, kvs, d, M, h1, h2, h3, h4, q⟩ := h
  obtain ⟨a, e1, ho⟩ := M.rel.addr h3
  obtain ⟨b, e2, rfl⟩ := h2
  rw [e1] at e2
  cases e2
  cases rx
  obtain ⟨hk, h4⟩ := grd_some h4
  rcases okKey_cases hk with ⟨k1, k2⟩ | ⟨k1, k2, k3⟩
  · obtain ⟨ks, hH, _, hR⟩ := dk_first ho k2
    obtain ⟨kk, ek⟩ := isKey_keyD k1
    obtain ⟨w', l1, l2⟩ := (hR.look ek h4).1 d rfl
    have ex := h1.key ek
    subst ex
    have hg : DGet H a (kV kk) (some w') := by
      have := DGet.k (k := kk) hH
      rw [l1] at this
      exact this
    exact tail_any (dict_typeIs I hg) PySem.F.slot_dict_getitem.lookup (d_getItem (by have := hr.un; omega) I hg ry fun w2 s' I' r' => ⟨w', H, I', r', q _ l2⟩) hsl
  · obtain ⟨hs, hl, xs, hR, hnd, hD⟩ := dictN_at hP hw hK I ho k2
    obtain ⟨nk, en, hdp⟩ := nkOk_some k3
    obtain ⟨b, rfl⟩ := tup_ref k1 h1
    cases ry
    obtain ⟨p, w', l1, l2, l3⟩ := (hR.look en h4).1 d rfl
    exact tail_any hD.typeIs PySem.F.slot_dict_getitem.lookup (wpAny_getItem_heap (nested_room hr) ⟨DV.nested hK I _ en h1 rfl, hdp⟩ hD l1 ⟨w', H, I.tok _, l2, q _ l3⟩) hsl
theorem o_ix (hP : X.prog = g.P) (hw : X.w = g.w) (hK : X.K = g.K) (hr : Room k X.A) : IxR X (rI2 g) := by
  refine IxR.imp (L2.IxR.or ix_list (L2.IxR.or ix_tup (L2.IxR.or ix_str (ix_dict hP hw hK hr)))) fun x y H Q h => ?_
  obtain ⟨cl, ρ, S, σd, σ, dx, dy, d, M, h1, h2, h3, q⟩ := h
  unfold ixD at h3
  cases dx with
  | tup ds =>
    obtain ⟨i, e, h3⟩ := opt_some h3
    obtain ⟨a, vs, rfl, q1, q2⟩ := h1
    rw [atL_eq] at h3
    obtain ⟨j, _, e2, _⟩ := atI_get h3
    obtain ⟨v, e3, e4⟩ := q2.get e2
    have e5 : atI vs i = some v := by
      unfold atI at h3 ⊢
      rw [← q2.length]
      cases e6 : ixN ds.length i with
      | none =>
        rw [e6] at h3
        cases h3
      | some j' =>
        rw [e6] at h3
        have h3 : ds[j']? = some d := h3
        obtain ⟨v', e7, e8⟩ := q2.get h3
        obtain ⟨_, _, _, _⟩ := ixN_seq e6
        have hj : seqIndex? i ds.length = some j := by assumption
        have hj' := (ixN_seq e6).1
        rw [hj] at hj'
        cases hj'
        exact e3
    rw [← hK] at q1
    exact .inr (.inl ⟨a, vs, i, v, rfl, h2.int e, q1.sq, e5, q v e4⟩)
  | str s =>
    obtain ⟨i, e, h3⟩ := opt_some h3
    obtain ⟨e0, h3⟩ := grd_some h3
    obtain ⟨c, e1, h3⟩ := opt_some h3
    cases h3
    rw [atL_eq] at e1
    exact .inr (.inr (.inl ⟨s, i, c, h1, h2.int e, okStr_le e0, e1, q _ rfl⟩))
  | loc n =>
    obtain ⟨o, e, h3⟩ := opt_some h3
    rw [nth_eq] at e
    cases o with
    | lst ds =>
      obtain ⟨a, e1, vs, q1, q2⟩ := M.rel.addr e
      obtain ⟨a', e2, rfl⟩ := h1
      rw [e1] at e2
      cases e2
      obtain ⟨i, ei, h3⟩ := opt_some h3
      rw [atL_eq] at h3
      have e5 : ∃ v, atI vs i = some v ∧ DV g ρ H cl d v := by
        unfold atI at h3 ⊢
        rw [← q2.length]
        cases e6 : ixN ds.length i with
        | none =>
          rw [e6] at h3
          cases h3
        | some j' =>
          rw [e6] at h3
          have h3 : ds[j']? = some d := h3
          exact q2.get h3
      obtain ⟨v, e5, e6⟩ := e5
      exact .inl ⟨a, vs, i, v, rfl, h2.int ei, SqL.of q1, e5, q v e6⟩
    | dct kvs =>
      obtain ⟨o, e1, h3⟩ := opt_some h3
      subst h3
      exact .inr (.inr (.inr ⟨cl, ρ, S, σd, σ, dy, n, kvs, d, M, h2, h1, e, e1, q⟩))
    | _ => cases h3
  | _ => cases h3

/-! ### slices -/
def rSl (g : G) : V → Option Int → Option Int → Hp → VK → Prop := fun x lo hi H Q => ∃ cl ρ S σd σ dx d S1, Sim g cl ρ S H σd σ ∧ DV g ρ H cl dx x ∧ slD S dx lo hi = some (d, S1) ∧ Fin g cl ρ H σd σ d S1 Q
theorem SlR.imp {X : Cx} {r r' : V → Option Int → Option Int → Hp → VK → Prop} (h : SlR X r) (i : ∀ x lo hi H Q, r' x lo hi H Q → r x lo hi H Q) : SlR X r' :=
  fun pins s σ H x v vl vu lo hi sl Q I rx hs pl pu q => h pins s σ H x v vl vu lo hi sl Q I rx hs pl pu (i _ _ _ _ _ q)
theorem DVs.cut {ρ : List Addr} {H : Hp} {cl : Cl} {ds : List D} {vs : List V} (h : DVs g ρ H cl ds vs) (lo hi : Option Int) : DVs g ρ H cl (cutL ds lo hi) (cutV vs lo hi) := by
  rw [cutL_eq]
  unfold cutV
  rw [← h.length]
  exact (h.drop _).take _
theorem o_sl (hK : X.K = g.K) : SlR X (rSl g) := by
  refine SlR.imp (L2.SlR.or sl_list (L2.SlR.or sl_tupS sl_str)) fun x lo hi H Q h => ?_
  obtain ⟨cl, ρ, S, σd, σ, dx, d, S1, M, h1, h3, F⟩ := h
  unfold slD at h3
  cases dx with
  | tup ds =>
    cases h3
    obtain ⟨a, vs, rfl, q1, q2⟩ := h1
    refine .inr (.inl ⟨a, vs, rfl, by rw [hK]; exact q1.sq, fun hw => ?_, fun _ p o hp ho => F.tup M (q2.cut lo hi) hp ho⟩)
    have e : cutL ds lo hi = ds := by
      rw [cutL_eq, q2.length, hw.1, hw.2, ← q2.length]
      simp
    rw [e] at F
    exact F.same M ⟨a, vs, rfl, q1, q2⟩
  | str s =>
    obtain ⟨e0, h3⟩ := grd_some h3
    cases h3
    refine .inr (.inr ⟨s, h1, okStr_le e0, F.same M ?_⟩)
    show V.str (cutS s lo hi) = V.str _
    rw [cutL_eq]
    rfl
  | loc n =>
    obtain ⟨ds, e, h3⟩ := opt_some h3
    obtain ⟨_, a, vs, _, _, rfl, q1, q2⟩ := M.lst h1 e
    cases h3
    exact .inl ⟨a, vs, rfl, SqL.of q1, fun p hp => F.lst M (q2.cut lo hi) hp⟩
  | _ => cases h3

/-! ### calls of built-ins by values -/
def rCB (g : G) (f : List D → Sto → Option (D × Sto)) : List V → Hp → VK → Prop := fun xs H Q => ∃ cl ρ S σd σ ds d S1, Sim g cl ρ S H σd σ ∧ DVs g ρ H cl ds xs ∧ f ds S = some (d, S1) ∧ Fin g cl ρ H σd σ d S1 Q
theorem CallR.imp {X : Cx} {f : Value} {r r' : List V → Hp → VK → Prop} (h : CallR X f r) (i : ∀ xs H Q, r' xs H Q → r xs H Q) : CallR X f r' :=
  fun pins s σ H xs us Q I r q => h pins s σ H xs us Q I r (i _ _ _ q)
theorem CallR.or {X : Cx} {f : Value} {r r' : List V → Hp → VK → Prop} (h : CallR X f r) (h' : CallR X f r') : CallR X f fun xs H Q => r xs H Q ∨ r' xs H Q :=
  fun pins s σ H xs us Q I r q => q.elim (h pins s σ H xs us Q I r) (h' pins s σ H xs us Q I r)
theorem on1_some {f : D → Sto → Option (D × Sto)} {ρ : List Addr} {H : Hp} {cl : Cl} {ds : List D} {S S1 : Sto} {d : D} {xs : List V} (h : on1 f ds S = some (d, S1)) (hx : DVs g ρ H cl ds xs) : ∃ a v, xs = [v] ∧ DV g ρ H cl a v ∧ f a S = some (d, S1) := by
  cases ds with
  | nil => cases h
  | cons a r =>
    cases r with
    | cons _ _ => cases h
    | nil =>
      obtain ⟨v, q, rfl, h1, h2⟩ := hx
      have h2 : q = [] := h2
      subst h2
      exact ⟨a, v, rfl, h1, h⟩
theorem allOf_ints {ρ : List Addr} {H : Hp} {cl : Cl} : ∀ {ds : List D} {is : List Int} {vs : List V}, allOf asI ds = some is → DVs g ρ H cl ds vs → vs = is.map V.int
  | [], _, _, e, h => by
    cases e
    exact h
  | d :: r, is, _, e, h => by
    obtain ⟨i, e1, e⟩ := opt_some (show opt (asI d) (fun a => opt (allOf asI r) fun q => some (a :: q)) = some is from e)
    obtain ⟨q, e2, e⟩ := opt_some e
    cases e
    obtain ⟨v, vr, rfl, h1, h2⟩ := h
    rw [h1.int e1, allOf_ints e2 h2] <;> rfl
theorem allOf_bools {ρ : List Addr} {H : Hp} {cl : Cl} : ∀ {ds : List D} {is : List Bool} {vs : List V}, allOf asB ds = some is → DVs g ρ H cl ds vs → vs = is.map V.bl
  | [], _, _, e, h => by
    cases e
    exact h
  | d :: r, is, _, e, h => by
    obtain ⟨i, e1, e⟩ := opt_some (show opt (asB d) (fun a => opt (allOf asB r) fun q => some (a :: q)) = some is from e)
    obtain ⟨q, e2, e⟩ := opt_some e
    cases e
    obtain ⟨v, vr, rfl, h1, h2⟩ := h
    rw [h1.bl e1, allOf_bools e2 h2] <;> rfl
theorem allOf_strs {ρ : List Addr} {H : Hp} {cl : Cl} : ∀ {ds : List D} {is : List Str} {vs : List V}, allOf asS ds = some is → DVs g ρ H cl ds vs → vs = is.map V.str
  | [], _, _, e, h => by
    cases e
    exact h
  | d :: r, is, _, e, h => by
    obtain ⟨i, e1, e⟩ := opt_some (show opt (asS d) (fun a => opt (allOf asS r) fun q => some (a :: q)) = some is from e)
    obtain ⟨q, e2, e⟩ := opt_some e
    cases e
    obtain ⟨v, vr, rfl, h1, h2⟩ := h
    rw [h1.str e1, allOf_strs e2 h2] <;> rfl
theorem b_abs : CallR X (.builtin "abs") (rCB g (on1 (bBlt1 "abs"))) := CallR.imp call_abs fun xs H Q h => by
  obtain ⟨cl, ρ, S, σd, σ, ds, d, S1, M, h1, h3, F⟩ := h
  obtain ⟨a, v, rfl, h1, h3⟩ := on1_some h3 h1
  obtain ⟨i, e, h3⟩ := opt_some (show opt (asI a) (fun i => some (D.int (match decide (i < 0) with | true => -i | false => i), S)) = some (d, S1) from h3)
  cases h3
  refine ⟨i, by rw [h1.int e], ?_⟩
  by_cases hi : i < 0
  · rw [if_pos hi]
    rw [decide_eq_true hi] at F
    exact F.same M rfl
  · rw [if_neg hi]
    rw [decide_eq_false hi] at F
    exact F.same M rfl
theorem b_all (hc : X.calm = true) : CallR X (.builtin "all") (rCB g (on1 (bBlt1 "all"))) := CallR.imp (cr_all hc) fun xs H Q h => by
  obtain ⟨cl, ρ, S, σd, σ, ds, d, S1, M, h1, h3, F⟩ := h
  obtain ⟨a, v, rfl, h1, h3⟩ := on1_some h3 h1
  obtain ⟨l, e, h3⟩ := opt_some (show opt (asL S a) (fun ds => opt (allOf asB ds) fun bs => some (D.bl (bs.all id), S)) = some (d, S1) from h3)
  obtain ⟨bs, e2, h3⟩ := opt_some h3
  obtain ⟨_, p, vs, _, _, rfl, q1, q2⟩ := M.lst h1 e
  cases h3
  have := allOf_bools e2 q2
  subst this
  exact ⟨p, bs, rfl, SqL.of q1, F.same M rfl⟩
theorem b_any (hc : X.calm = true) : CallR X (.builtin "any") (rCB g (on1 (bBlt1 "any"))) := CallR.imp (cr_any hc) fun xs H Q h => by
  obtain ⟨cl, ρ, S, σd, σ, ds, d, S1, M, h1, h3, F⟩ := h
  obtain ⟨a, v, rfl, h1, h3⟩ := on1_some h3 h1
  obtain ⟨l, e, h3⟩ := opt_some (show opt (asL S a) (fun ds => opt (allOf asB ds) fun bs => some (D.bl (bs.any id), S)) = some (d, S1) from h3)
  obtain ⟨bs, e2, h3⟩ := opt_some h3
  obtain ⟨_, p, vs, _, _, rfl, q1, q2⟩ := M.lst h1 e
  cases h3
  have := allOf_bools e2 q2
  subst this
  exact ⟨p, bs, rfl, SqL.of q1, F.same M rfl⟩
theorem sumI_eq : ∀ l : List Int, sumI l = l.sum
  | [] => rfl
  | i :: r => by
    rw [List.sum_cons, ← sumI_eq r]
    rfl
theorem maxI_spec : ∀ (l : List Int) (m : Int), maxI m l ∈ m :: l ∧ ∀ y ∈ m :: l, y ≤ maxI m l
  | [], m => ⟨by simp [maxI], fun y h => by simp at h; simp [maxI, h]⟩
  | i :: r, m => by
    show (match decide (m < i) with | true => maxI i r | false => maxI m r) ∈ _ ∧ ∀ y ∈ _, y ≤ (match decide (m < i) with | true => maxI i r | false => maxI m r)
    by_cases h : m < i
    · rw [decide_eq_true h]
      obtain ⟨h1, h2⟩ := maxI_spec r i
      refine ⟨List.mem_cons_of_mem _ h1, fun y hy => ?_⟩
      rcases List.mem_cons.mp hy with e | hy
      · have := h2 i List.mem_cons_self
        show y ≤ maxI i r
        omega
      · exact h2 y hy
    · rw [decide_eq_false h]
      obtain ⟨h1, h2⟩ := maxI_spec r m
      refine ⟨?_, fun y hy => ?_⟩
      · rcases List.mem_cons.mp h1 with e | e
        · show maxI m r ∈ _
          rw [e]
          exact List.mem_cons_self
        · exact List.mem_cons_of_mem _ (List.mem_cons_of_mem _ e)
      · rcases List.mem_cons.mp hy with e | hy
        · exact h2 y (by rw [e]; exact List.mem_cons_self)
        · rcases List.mem_cons.mp hy with e | hy
          · have := h2 m List.mem_cons_self
            show y ≤ maxI m r
            omega
          · exact h2 y (List.mem_cons_of_mem _ hy)
theorem minI_spec : ∀ (l : List Int) (m : Int), minI m l ∈ m :: l ∧ ∀ y ∈ m :: l, minI m l ≤ y
  | [], m => ⟨by simp [minI], fun y h => by simp at h; simp [minI, h]⟩
  | i :: r, m => by
    show (match decide (i < m) with | true => minI i r | false => minI m r) ∈ _ ∧ ∀ y ∈ _, (match decide (i < m) with | true => minI i r | false => minI m r) ≤ y
    by_cases h : i < m
    · rw [decide_eq_true h]
      obtain ⟨h1, h2⟩ := minI_spec r i
      refine ⟨List.mem_cons_of_mem _ h1, fun y hy => ?_⟩
      rcases List.mem_cons.mp hy with e | hy
      · have := h2 i List.mem_cons_self
        show minI i r ≤ y
        omega
      · exact h2 y hy
    · rw [decide_eq_false h]
      obtain ⟨h1, h2⟩ := minI_spec r m
      refine ⟨?_, fun y hy => ?_⟩
      · rcases List.mem_cons.mp h1 with e | e
        · show minI m r ∈ _
          rw [e]
          exact List.mem_cons_self
        · exact List.mem_cons_of_mem _ (List.mem_cons_of_mem _ e)
      · rcases List.mem_cons.mp hy with e | hy
        · exact h2 y (by rw [e]; exact List.mem_cons_self)
        · rcases List.mem_cons.mp hy with e | hy
          · have := h2 m List.mem_cons_self
            show minI m r ≤ y
            omega
          · exact h2 y (List.mem_cons_of_mem _ hy)
theorem b_max (hc : X.calm = true) : CallR X (.builtin "max") (rCB g (on1 (bBlt1 "max"))) := CallR.imp (cr_max hc) fun xs H Q h => by
  obtain ⟨cl, ρ, S, σd, σ, ds, d, S1, M, h1, h3, F⟩ := h
  obtain ⟨a, v, rfl, h1, h3⟩ := on1_some h3 h1
  obtain ⟨l, e, h3⟩ := opt_some (show opt (asL S a) (fun ds => opt (allOf asI ds) fun is => match is with | i :: r => some (D.int (maxI i r), S) | [] => none) = some (d, S1) from h3)
  obtain ⟨is, e2, h3⟩ := opt_some h3
  obtain ⟨_, p, vs, _, _, rfl, q1, q2⟩ := M.lst h1 e
  have := allOf_ints e2 q2
  subst this
  cases is with
  | nil => cases h3
  | cons i r =>
    cases h3
    obtain ⟨m1, m2⟩ := maxI_spec r i
    refine ⟨p, i :: r, rfl, SqL.of q1, by simp, fun m h1 h2 => ?_⟩
    have e1 := h2 _ m1
    have e2 := m2 _ h1
    have : m = maxI i r := by omega
    rw [this]
    exact F.same M rfl
theorem b_min (hc : X.calm = true) : CallR X (.builtin "min") (rCB g (on1 (bBlt1 "min"))) := CallR.imp (cr_min hc) fun xs H Q h => by
  obtain ⟨cl, ρ, S, σd, σ, ds, d, S1, M, h1, h3, F⟩ := h
  obtain ⟨a, v, rfl, h1, h3⟩ := on1_some h3 h1
  obtain ⟨l, e, h3⟩ := opt_some (show opt (asL S a) (fun ds => opt (allOf asI ds) fun is => match is with | i :: r => some (D.int (minI i r), S) | [] => none) = some (d, S1) from h3)
  obtain ⟨is, e2, h3⟩ := opt_some h3
  obtain ⟨_, p, vs, _, _, rfl, q1, q2⟩ := M.lst h1 e
  have := allOf_ints e2 q2
  subst this
  cases is with
  | nil => cases h3
  | cons i r =>
    cases h3
    obtain ⟨m1, m2⟩ := minI_spec r i
    refine ⟨p, i :: r, rfl, SqL.of q1, by simp, fun m h1 h2 => ?_⟩
    have e1 := h2 _ m1
    have e2 := m2 _ h1
    have : m = minI i r := by omega
    rw [this]
    exact F.same M rfl
end
end K76
end

/-! text Ops5 -/
section
namespace K76
open PySem PySem.Spec PyProof.Rows L2
section
variable {g : G} {X : Cx} {k : Nat}
/-- len of a set that is known by its object -/
theorem call_lenN : CallR X (.builtin "len") (fun xs H Q => ∃ a o es ep t, xs = [.ref a] ∧ H a = some (DictO a o) ∧ Obj.ExactSet o ∧ o.data = .set es ep t ∧ t.fits es.size = true ∧ es.size < 64 ∧ Q (.int es.size) H) := by
  intro pins s σ H xs us Q I r h
  obtain ⟨a, o, es, ep, t, rfl, hH, hx, hd, hf, hn, q⟩ := h
  obtain ⟨u, rfl, rx⟩ := vals1 r
  cases rx
  have ho : s.heap.get? a = some o := (I.hok a _ hH).1
  exact call_len_set ho hx hd hf (by omega) ⟨.int es.size, H, I.tok _, ⟨_, rfl⟩, q⟩
theorem b_len (hK : X.K = g.K) : CallR X (.builtin "len") (rCB g (on1 (bBlt1 "len"))) := CallR.imp (CallR.or call_len call_lenN) fun xs H Q h => by
  obtain ⟨cl, ρ, S, σd, σ, ds, d, S1, M, h1, h3, F⟩ := h
  obtain ⟨a, v, rfl, h1, h3⟩ := on1_some h3 h1
  have h3 : bLen a S = some (d, S1) := h3
  unfold bLen at h3
  cases a with
  | tup l =>
    cases h3
    obtain ⟨p, vs, rfl, q1, q2⟩ := h1
    exact .inl ⟨_, vs.length, rfl, .inr ⟨vs, by rw [hK]; exact q1.sq, rfl⟩, F.same M (by show _ = V.int _; rw [q2.length])⟩
  | str s =>
    obtain ⟨e0, h3⟩ := grd_some h3
    cases h3
    have h1 : v = .str s := h1
    subst h1
    exact .inl ⟨_, s.length, rfl, ⟨okStr_le e0, rfl⟩, F.same M rfl⟩
  | loc n =>
    obtain ⟨o, e, h3⟩ := opt_some h3
    rw [nth_eq] at e
    obtain ⟨p, e1, ho⟩ := M.rel.addr e
    obtain ⟨p', e2, rfl⟩ := h1
    rw [e1] at e2
    cases e2
    cases o with
    | lst l =>
      cases h3
      obtain ⟨vs, q1, q2⟩ := ho
      exact .inl ⟨_, vs.length, rfl, .inl ⟨vs, SqL.of q1, rfl⟩, F.same M (by show _ = V.int _; rw [q2.length])⟩
    | set l =>
      cases h3
      obtain ⟨o, es, ep, t, h⟩ := ho
      exact .inr ⟨_, o, es, ep, t, rfl, h.at_, h.ex, h.dat, h.fits, h.few, F.same M (by show _ = V.int _; rw [h.size])⟩
    | _ => cases h3
  | _ => cases h3
/-- isinstance -/
theorem b_isi (hK : X.K = g.K) : CallR X (.builtin "isinstance") (rCB g bIsi) := CallR.imp call_isi fun xs H Q h => by
  obtain ⟨cl, ρ, S, σd, σ, ds, d, S1, M, h1, h3, F⟩ := h
  unfold bIsi at h3
  split at h3
  · rename_i a T
    obtain ⟨b, e, h3⟩ := opt_some h3
    cases h3
    obtain ⟨v, q, rfl, h1, v2, q2, rfl, h2, h4⟩ := h1
    have h4 : q2 = [] := h4
    subst h4
    have h2 : v2 = .ty T := h2
    subst h2
    have fin : ∀ t : String, TyX X.K H v (.type t) → kitB t T = some b → ∃ (x c : V) (t u : Value) (b : Bool), [v, V.ty T] = [x, c] ∧ ClsV c u ∧ TyX X.K H x t ∧ PySem.W.kitOne X.K t u = some b ∧ Q (.bl b) H :=
      fun t ht e => ⟨v, .ty T, .type t, .type T, b, rfl, .ty T, ht, kit_ty e, F.same M rfl⟩
    obtain ⟨t, et, e⟩ := opt_some e
    have hk : kitB t T = some b := by
      unfold isiT at e
      split at e
      all_goals first
        | (cases e; done)
        | (split at e
           all_goals first
             | (cases e; done)
             | (cases e; decide +kernel))
    refine fin t ?_ hk
    cases a with
    | non | bl _ | int _ | str _ =>
      cases et
      have h1 : v = _ := h1
      subst h1
      exact .base (by constructor)
    | tup l =>
      cases et
      obtain ⟨p, vs, rfl, q1, _⟩ := h1
      rcases q1.sq with (q1 | ⟨o, q1⟩) | ⟨o, its, n, e1, e2, _⟩
      · exact .base (.tup q1)
      · exact .fTuple q1
      · exact .kTuple (by rw [hK]; exact e1) e2
    | _ => cases et
  · cases h3
theorem b_gcd : CallR X (.builtin "math.gcd") (rCB g bGcd) := CallR.imp cr_gcd fun xs H Q h => by
  obtain ⟨cl, ρ, S, σd, σ, ds, d, S1, M, h1, h3, F⟩ := h
  unfold bGcd at h3
  split at h3
  · rename_i a b
    obtain ⟨i, e, h3⟩ := opt_some h3
    obtain ⟨j, e', h3⟩ := opt_some h3
    cases h3
    obtain ⟨v, q, rfl, h1, v2, q2, rfl, h2, h4⟩ := h1
    have h4 : q2 = [] := h4
    subst h4
    exact ⟨i, j, by rw [h1.int e, h2.int e'], F.same M rfl⟩
  · cases h3
/-! types -/
theorem b_tuple (hK : X.K = g.K) : CallR X (.type "tuple") (rCB g (on1 (bTy1 "tuple"))) := CallR.imp call_tupleS fun xs H Q h => by
  obtain ⟨cl, ρ, S, σd, σ, ds, d, S1, M, h1, h3, F⟩ := h
  obtain ⟨a, v, rfl, h1, h3⟩ := on1_some h3 h1
  obtain ⟨l, e, h3⟩ := opt_some (show opt (seqOf S a) (fun ds => some (D.tup ds, S)) = some (d, S1) from h3)
  cases h3
  unfold seqOf at e
  cases a with
  | tup l' =>
    cases e
    obtain ⟨p, vs, rfl, q1, q2⟩ := h1
    exact ⟨p, vs, rfl, .inr ⟨by rw [hK]; exact q1.sq, F.same M ⟨p, vs, rfl, q1, q2⟩⟩⟩
  | loc n =>
    obtain ⟨_, p, vs, _, _, rfl, q1, q2⟩ := M.lst h1 e
    exact ⟨p, vs, rfl, .inl ⟨SqL.of q1, fun l o hl ho => F.tup M q2 hl ho⟩⟩
  | _ => cases e
theorem b_int : CallR X (.type "int") (rCB g (on1 (bTy1 "int"))) := CallR.imp call_int_str fun xs H Q h => by
  obtain ⟨cl, ρ, S, σd, σ, ds, d, S1, M, h1, h3, F⟩ := h
  obtain ⟨a, v, rfl, h1, h3⟩ := on1_some h3 h1
  obtain ⟨z, e, h3⟩ := opt_some (show opt (asS a) (fun s => grd (Nat.ble s.cps.size 100) (opt (PySem.intText? s) fun i => some (D.int i, S))) = some (d, S1) from h3)
  obtain ⟨e0, h3⟩ := grd_some h3
  obtain ⟨i, e2, h3⟩ := opt_some h3
  cases h3
  have e0 : z.cps.size ≤ 100 := Nat.le_of_ble_eq_true e0
  exact ⟨z, i, by rw [h1.str e], e2, by show z.cps.size ≤ 640; omega, F.same M rfl⟩
theorem b_str : CallR X (.type "str") (rCB g (on1 (bTy1 "str"))) := CallR.imp call_str_int fun xs H Q h => by
  obtain ⟨cl, ρ, S, σd, σ, ds, d, S1, M, h1, h3, F⟩ := h
  obtain ⟨a, v, rfl, h1, h3⟩ := on1_some h3 h1
  obtain ⟨i, e, h3⟩ := opt_some (show opt (asI a) (fun i => grd (i62 i) (some (D.str (toString i), S))) = some (d, S1) from h3)
  obtain ⟨e0, h3⟩ := grd_some h3
  cases h3
  refine ⟨i, by rw [h1.int e], ?_, F.same M rfl⟩
  have := i62_lt e0
  by_cases hz : i.natAbs = 0
  · rw [hz]
    decide
  · have h2 : i.natAbs.log2 < 62 := (Nat.log2_lt hz).mpr this
    omega
theorem b_max3 (hc : X.calm = true) : CallR X (.builtin "max") (fun xs H Q => ∃ i j k, xs = [.int i, .int j, .int k] ∧ Q (.int (maxI i [j, k])) H) := by
  intro pins s σ H xs us Q I r h
  obtain ⟨i, j, k, rfl, q⟩ := h
  cases r with
  | cons r1 r =>
    cases r with
    | cons r2 r =>
      cases r with
      | cons r3 r =>
        cases r
        obtain ⟨t1, rfl⟩ := r1
        obtain ⟨t2, rfl⟩ := r2
        obtain ⟨t3, rfl⟩ := r3
        refine PySem.max_three_ints (I.ok.hd hc) fun h' tk hk => ?_
        have q2 : Q (.int (if j > i then (if k > j then k else j) else (if k > i then k else i))) H := by
          have e : maxI i [j, k] = (if j > i then (if k > j then k else j) else (if k > i then k else i)) := by
            show (match decide (i < j) with | true => maxI j [k] | false => maxI i [k]) = _
            by_cases h1 : i < j
            · rw [decide_eq_true h1, if_pos h1]
              show (match decide (j < k) with | true => maxI k [] | false => maxI j []) = _
              by_cases h2 : j < k
              · rw [decide_eq_true h2, if_pos h2] <;> rfl
              · rw [decide_eq_false h2, if_neg h2] <;> rfl
            · rw [decide_eq_false h1, if_neg h1]
              show (match decide (i < k) with | true => maxI k [] | false => maxI i []) = _
              by_cases h2 : i < k
              · rw [decide_eq_true h2, if_pos h2] <;> rfl
              · rw [decide_eq_false h2, if_neg h2] <;> rfl
          rw [← e]
          exact q
        refine ⟨_, H, I.kept hk, ?_, q2⟩
        by_cases h1 : j > i
        · rw [if_pos h1, if_pos h1]
          by_cases h2 : k > j
          · rw [if_pos h2, if_pos h2]; exact ⟨_, rfl⟩
          · rw [if_neg h2, if_neg h2]; exact ⟨_, rfl⟩
        · rw [if_neg h1, if_neg h1]
          by_cases h2 : k > i
          · rw [if_pos h2, if_pos h2]; exact ⟨_, rfl⟩
          · rw [if_neg h2, if_neg h2]; exact ⟨_, rfl⟩
theorem b_maxAny (hc : X.calm = true) : CallR X (.builtin "max") (rCB g bMax) := CallR.imp (CallR.or (b_max (g := g) hc) (b_max3 hc)) fun xs H Q h => by
  obtain ⟨cl, ρ, S, σd, σ, ds, d, S1, M, h1, h3, F⟩ := h
  unfold bMax at h3
  split at h3
  · exact .inl ⟨cl, ρ, S, σd, σ, _, d, S1, M, h1, h3, F⟩
  · obtain ⟨i, e1, h3⟩ := opt_some h3
    obtain ⟨j, e2, h3⟩ := opt_some h3
    obtain ⟨k, e3, h3⟩ := opt_some h3
    cases h3
    obtain ⟨v1, q, rfl, h1, v2, q2, rfl, h2, v3, q3, rfl, h4, h5⟩ := h1
    have h5 : q3 = [] := h5
    subst h5
    exact .inr ⟨i, j, k, by rw [h1.int e1, h2.int e2, h4.int e3], F.same M rfl⟩
  · cases h3
end
end K76
end

/-! text Exp1 -/
section
namespace K76
open PySem PySem.Spec PyProof.Rows L2

/-! ### where an expression stands -/
/-- the written scope against the one that runs -/
structure ScR (sc sc' : Scope) : Prop where
  own : ∀ x, isOwn sc x = true → Vis sc' x
  glo : ∀ x, isGlo sc x = true → sc'.names.lookup x = some .globalImplicit
  loc : ∀ x, isLoc sc x = true → Loc sc' x
  cf : ∀ x, sc.names.lookup x = some .cell ∨ sc.names.lookup x = some .free → sc'.names.lookup x = some .cell ∨ sc'.names.lookup x = some .free
abbrev ClF := Env1 → L2.St → Cl
/-- where lambdas are made -/
structure LamMk (g : G) (C : Cx1) (X : Cx) (cl : ClF) : Prop where
  tb : ∃ c P, LamX.TabB X.base X.mg c P ∧ X.env.code = .ref c ∧ (P, C.qual ++ "<lambda>") ∈ g.T ∧ ∀ p ∈ g.T, p.1 = P → p.2 = C.qual ++ "<lambda>"
  qual : X.env.qual = C.qual
  cl : ∀ σd σ, cl σd σ = clOf X (fun _ _ => False) C.caps σd σ
structure Good (g : G) (C : Cx1) (X : Cx) (bk : Bool) (sc : Scope) (cl : ClF) (k : Nat) : Prop where
  P : X.prog = g.P
  w : X.w = g.w
  K : X.K = g.K
  mg : X.mg = g.mg
  base : X.base = g.base
  xe : X.xe = fun _ _ => False
  N : X.N = C.N
  nd : C.N.Nodup
  calm : X.calm = true
  room : Room k X.A
  scr : ScR sc X.env.scope
  fn : ∀ x, isLoc sc x = true → X.fn x = true ∨ X.env.scope.names.lookup x = some .local
  clT : ∀ (pins : List (Addr × Obj)) (σ : L2.St) (H : Hp) (s : Shared) (σd : Env1) (c : Addr) (v : V), Inv X pins σ H s → cl σd σ c v → H c = none ∧ c ∉ frs X.stack ∧ X.base.get? c = none ∧ ∃ u, RelV v u ∧ s.heap.IsCell c (some u)
  lamB : C.lam = false → ∀ σd σ c v, ¬ cl σd σ c v
  ndbg : ∀ x ∈ C.N, (x == ("__debug__" : Str)) = false ∧ (x == ("__classdict__" : Str)) = false
  lmk : bk = false → C.lam = true → C.caps.isEmpty = false → LamMk g C X cl
/-- the module's names -/
structure Facts (g : G) (P : Prog1) : Prop where
  rng : g.mg "range" = none
  zip : g.mg "zip" = none
  enm : g.mg "enumerate" = none
  fld : ∀ c f Ca, isFld P c f = true → g.mg c = some (.ref Ca) → Cls g.K Ca ∧ NoAttr g.K Ca f
  glo : ∀ x d, gloName P x = some d → (x == ("__debug__" : Str)) = false ∧ ((∃ v u, g.mg x = some u ∧ RelV v u ∧ ∀ ρ H cl, DV g ρ H cl d v) ∨ (g.mg x = none ∧ x ≠ "__name__" ∧ ∃ T, d = .ty T ∧ bootBuiltins x = some (.type T)))

section
variable {g : G} {C : Cx1} {X : Cx} {bk : Bool} {sc : Scope} {cl : ClF} {k : Nat} {ih : Ih}
/-- what the parts are known to be -/
structure IhE (g : G) (X : Cx) (bk : Bool) (sc : Scope) (cl : ClF) (ih : Ih) : Prop where
  e : ∀ e, PE X e (tE g cl (ih.e bk sc e))
  t : ∀ e, PT X e (tT g cl (tst ih bk sc e))

theorem tE_C {d : D} {v : V} {σ : L2.St} {H : Hp} {Q : VK} (h : tE g cl (fun _ S => some (d, S)) σ H Q) (hv : ∀ ρ cl, DV g ρ H cl d v) : tC v σ H Q := by
  obtain ⟨ρ, σd, S, d', S1, M, e, k⟩ := h
  cases e
  exact k ρ H v (Pre.refl _) (Le.refl _) M (hv _ _)
theorem e_const {c : Const} {j : Nat} {pos : Pos} : PE X (.Constant c j pos) (tE g cl fun _ S => evConst c S) := by
  have none : PE X (.Constant c j pos) (fun _ _ _ => False) := ⟨fun _ _ _ _ _ _ h => h.elim⟩
  cases c with
  | int i => exact PE.imp pe_int fun σ H Q h => tE_C h fun _ _ => rfl
  | bool i => exact PE.imp pe_bl fun σ H Q h => tE_C h fun _ _ => rfl
  | str i => exact PE.imp pe_str fun σ H Q h => tE_C h fun _ _ => rfl
  | none => exact PE.imp pe_non fun σ H Q h => tE_C h fun _ _ => rfl
  | _ => exact PE.imp none fun σ H Q ⟨_, _, _, _, _, _, e, _⟩ => by cases e
theorem isOwn_N {x : Str} {i : Nat} (h : findIx x C.N 0 = some i) : x ∈ C.N := List.mem_of_getElem? (findIx_0 h)
theorem e_name (F : Facts g C.P) (Gd : Good g C X bk sc cl k) {x : Str} {pos : Pos} : PE X (.Name x pos) (tE g cl fun σ S => opt (evName C.P C.N sc x σ) fun d => some (d, S)) := by
  by_cases ho : isOwn sc x = true
  · cases hf : findIx x C.N 0 with
    | none =>
      refine PE.imp (⟨fun _ _ _ _ _ _ h => h.elim⟩ : PE X (.Name x pos) (fun _ _ _ => False)) fun σ H Q h => ?_
      obtain ⟨ρ, σd, S, d, S1, M, e, _⟩ := h
      obtain ⟨d', e, _⟩ := opt_some e
      unfold evName at e
      rw [ho] at e
      obtain ⟨i, e, _⟩ := opt_some (show opt (findIx x C.N 0) _ = some d' from e)
      rw [hf] at e
      cases e
    | some i =>
      have hb := Gd.ndbg x (isOwn_N hf)
      refine PE.imp (pe_var (X := X) (i := i) (by rw [Gd.N]; exact findIx_0 hf) (Gd.scr.own x ho) hb.1 hb.2) fun σ H Q h => ?_
      obtain ⟨ρ, σd, S, d, S1, M, e0, q⟩ := h
      obtain ⟨d', e1, e'⟩ := opt_some e0
      cases e'
      unfold evName at e1
      rw [ho] at e1
      have e1 : opt (findIx x C.N 0) (fun i => match nth σd i with | some (some d) => some d | _ => none) = some d := e1
      obtain ⟨j, e, e2⟩ := opt_some e1
      rw [hf] at e
      cases e
      rw [nth_eq] at e2
      split at e2
      · rename_i d2 e3
        cases e2
        obtain ⟨v, h1, h2⟩ := M.env.at_ i _ e3
        exact ⟨v, h1, q ρ H v (Pre.refl _) (Le.refl _) M h2⟩
      · cases e2
  · have ho : isOwn sc x = false := by
      cases e : isOwn sc x with
      | false => rfl
      | true => exact absurd e ho
    have never : PE X (.Name x pos) (fun _ _ _ => False) := ⟨fun _ _ _ _ _ _ h => h.elim⟩
    cases hg : isGlo sc x with
    | false =>
      refine PE.imp never fun σ H Q h => ?_
      obtain ⟨ρ, σd, S, d, S1, M, e, _⟩ := h
      obtain ⟨d', e, _⟩ := opt_some e
      unfold evName at e
      rw [ho, hg] at e
      cases e
    | true =>
      cases hn : gloName C.P x with
      | none =>
        refine PE.imp never fun σ H Q h => ?_
        obtain ⟨ρ, σd, S, d, S1, M, e, _⟩ := h
        obtain ⟨d', e, _⟩ := opt_some e
        unfold evName at e
        rw [ho, hg, hn] at e
        cases e
      | some d0 =>
        have gl : Gl X x := Gd.scr.glo x hg
        obtain ⟨hdb, hh⟩ := F.glo x d0 hn
        have key : ∀ {v : V}, (∀ ρ H cl, DV g ρ H cl d0 v) → ∀ σ H Q, tE g cl (fun σ S => opt (evName C.P C.N sc x σ) fun d => some (d, S)) σ H Q → tC v σ H Q := fun {v} hv σ H Q h => by
          obtain ⟨ρ, σd, S, d, S1, M, e, q⟩ := h
          obtain ⟨d', e, e'⟩ := opt_some e
          cases e'
          unfold evName at e
          rw [ho, hg, hn] at e
          cases e
          exact q ρ H v (Pre.refl _) (Le.refl _) M (hv _ _ _)
        rcases hh with ⟨v, u, h1, h2, h3⟩ | ⟨h1, h2, T, rfl, h3⟩
        · exact PE.imp (pe_glob gl (by rw [Gd.mg]; exact h1) h2 hdb) (key h3)
        · exact PE.imp (pe_bltn (v := .ty T) gl (by rw [Gd.mg]; exact h1) h3 rfl h2 hdb) (key fun _ _ _ => rfl)
/-! in a row -/
theorem tE_bin {fa fb : EvT} {f : D → D → Sto → Option (D × Sto)} {σ : L2.St} {H : Hp} {Q : VK} (h : tE g cl (fun σd S => bnd (fa σd S) fun x S1 => bnd (fb σd S1) fun y S2 => f x y S2) σ H Q) : tOp (rD2 g f) (tE g cl fa) (tE g cl fb) σ H Q := by
  obtain ⟨ρ, σd, S, d, S1, M, e, q⟩ := h
  obtain ⟨x, Sa, e1, e⟩ := bnd_some e
  obtain ⟨y, Sb, e2, e⟩ := bnd_some e
  exact ⟨ρ, σd, S, x, Sa, M, e1, fun ρ1 H1 v p1 l1 M1 d1 => ⟨ρ1, σd, Sa, y, Sb, M1, e2, fun ρ2 H2 u p2 l2 M2 d2 =>
    ⟨cl σd σ, ρ2, Sb, σd, σ, x, y, d, S1, M2, d1.mono p2 l2 (fun _ _ z => z), d2, e, ⟨fun ρ3 H3 w p3 l3 M3 d3 => q ρ3 H3 w ((p1.trans p2).trans p3) ((l1.trans l2).trans l3) M3 d3⟩⟩⟩⟩
theorem e_bin (I : IhE g X bk sc cl ih) (hK : X.K = g.K) {a b : Expr} {op : Operator} {pos : Pos} : PE X (.BinOp a op b pos) (tE g cl fun σ S => bnd (ih.e bk sc a σ S) fun x S1 => bnd (ih.e bk sc b σ S1) fun y S2 => binD op x y S2) :=
  PE.imp (pe_op (o_bin hK op) (I.e a) (I.e b)) fun σ H Q h => tE_bin h
theorem e_neg (I : IhE g X bk sc cl ih) {a : Expr} {pos : Pos} : PE X (.UnaryOp .USub a pos) (tE g cl fun σ S => bnd (ih.e bk sc a σ S) fun x S1 => opt (asI x) fun i => some (.int (-i), S1)) := by
  refine PE.imp (pe_un un_neg (I.e a)) fun σ H Q h => ?_
  obtain ⟨ρ, σd, S, d, S1, M, e, q⟩ := h
  obtain ⟨x, Sa, e1, e⟩ := bnd_some e
  obtain ⟨i, e2, e⟩ := opt_some e
  cases e
  exact ⟨ρ, σd, S, x, _, M, e1, fun ρ1 H1 v p1 l1 M1 d1 => ⟨i, d1.int e2, q ρ1 H1 _ p1 l1 M1 rfl⟩⟩
/-! tests -/
theorem tst_eq {e : Expr} {σ : Env1} {S : Sto} {b : Bool} {S1 : Sto} (h : tst ih bk sc e σ S = some (b, S1)) : ih.e bk sc e σ S = some (.bl b, S1) := by
  obtain ⟨d, S2, e1, h⟩ := bnd_some h
  obtain ⟨c, e2, h⟩ := opt_some h
  cases h
  rw [asB_some e2] at e1
  exact e1
/-- an expression's value as a test -/
theorem t_val {f : EvT} {e : Expr} (h : PE X e (tE g cl f)) (he : ∀ whole, isTrue e X.env whole = (do let v ← whole; standAt e.pos; holding [v] (truthy v))) : PT X e (tT g cl fun σ S => bnd (f σ S) fun d S1 => opt (asB d) fun b => some (b, S1)) := by
  refine PT.imp (pt_val h he) fun σ H Q q => ?_
  obtain ⟨ρ, σd, S, b, S1, M, e, q⟩ := q
  obtain ⟨d, Sa, e1, e⟩ := bnd_some e
  obtain ⟨c, e2, e⟩ := opt_some e
  cases e
  exact ⟨ρ, σd, S, d, _, M, e1, fun ρ1 H1 v p1 l1 M1 d1 => ⟨b, d1.bl e2, q ρ1 H1 p1 l1 M1⟩⟩
theorem e_not (I : IhE g X bk sc cl ih) {a : Expr} {pos : Pos} (ha : PE X (.UnaryOp .Not a pos) (tNotV (tE g cl (ih.e bk sc a))) := pe_not (I.e a)) :
    PE X (.UnaryOp .Not a pos) (tE g cl fun σ S => bnd (tst ih bk sc a σ S) fun b S1 => some (.bl (!b), S1)) ∧ PT X (.UnaryOp .Not a pos) (tT g cl fun σ S => bnd (bnd (tst ih bk sc a σ S) fun b S1 => some (D.bl (!b), S1)) fun d S1 => opt (asB d) fun b => some (b, S1)) := by
  constructor
  · refine PE.imp ha fun σ H Q h => ?_
    obtain ⟨ρ, σd, S, d, S1, M, e, q⟩ := h
    obtain ⟨b, Sa, e1, e⟩ := bnd_some e
    cases e
    exact ⟨ρ, σd, S, _, _, M, tst_eq e1, fun ρ1 H1 v p1 l1 M1 d1 => ⟨b, d1, q ρ1 H1 _ p1 l1 M1 rfl⟩⟩
  · refine PT.imp (pt_not (I.t a)) fun σ H Q h => ?_
    obtain ⟨ρ, σd, S, d, S1, M, e, q⟩ := h
    obtain ⟨d', Sb, e, e'⟩ := bnd_some e
    obtain ⟨b, Sa, e1, e⟩ := bnd_some e
    cases e
    cases e'
    exact ⟨ρ, σd, S, b, _, M, e1, fun ρ1 H1 p1 l1 M1 => q ρ1 H1 p1 l1 M1⟩
theorem e_if (I : IhE g X bk sc cl ih) {t a b : Expr} {pos : Pos} : PE X (.IfExp t a b pos) (tE g cl fun σ S => bnd (tst ih bk sc t σ S) fun k S1 => match k with
    | true => ih.e bk sc a σ S1
    | false => ih.e bk sc b σ S1) := by
  refine PE.imp (pe_ifExp (I.t t) (I.e a) (I.e b)) fun σ H Q h => ?_
  obtain ⟨ρ, σd, S, d, S1, M, e, q⟩ := h
  obtain ⟨c, Sa, e1, e⟩ := bnd_some e
  refine ⟨ρ, σd, S, c, Sa, M, e1, fun ρ1 H1 p1 l1 M1 => ?_⟩
  cases c with
  | true =>
    rw [if_pos rfl]
    exact ⟨ρ1, σd, Sa, d, S1, M1, e, fun ρ2 H2 v p2 l2 M2 d2 => q ρ2 H2 v (p1.trans p2) (l1.trans l2) M2 d2⟩
  | false =>
    rw [if_neg Bool.false_ne_true]
    exact ⟨ρ1, σd, Sa, d, S1, M1, e, fun ρ2 H2 v p2 l2 M2 d2 => q ρ2 H2 v (p1.trans p2) (l1.trans l2) M2 d2⟩
/-- and, or -/
theorem e_bool (I : IhE g X bk sc cl ih) {pos : Pos} (isAnd : Bool) : ∀ vs : List Expr, PE X (.BoolOp (if isAnd then .And else .Or) vs pos) (tE g cl (evBool ih isAnd bk sc vs)) ∧
    PW X (.BoolOp (if isAnd then .And else .Or) vs pos) (tT g cl fun σ S => bnd (evBool ih isAnd bk sc vs σ S) fun d S1 => opt (asB d) fun b => some (b, S1))
  | [] => by
    constructor
    · refine ⟨fun pins s σ H Q I h => ?_⟩
      obtain ⟨_, _, _, _, _, _, e, _⟩ := h
      cases e
    · refine ⟨fun wh pins s σ H Q I h => ?_⟩
      obtain ⟨_, _, _, _, _, _, e, _⟩ := h
      cases e
  | [a] => by
    constructor
    · refine PE.imp (pe_one (I.e a)) fun σ H Q h => ?_
      obtain ⟨ρ, σd, S, d, S1, M, e, q⟩ := h
      obtain ⟨c, Sa, e1, e⟩ := bnd_some (show bnd (tst ih bk sc a σd S) (fun b S1 => some (D.bl b, S1)) = some (d, S1) from e)
      cases e
      exact ⟨ρ, σd, S, _, _, M, tst_eq e1, q⟩
    · have w : PW X (.BoolOp (if isAnd then .And else .Or) [a] pos) (tT g cl (tst ih bk sc a)) := by
        cases isAnd with
        | true => exact pw_and1 (I.t a)
        | false => exact pw_or1 (I.t a)
      refine ⟨fun wh pins s σ H Q I h => w.run wh pins s σ H Q I ?_⟩
      obtain ⟨ρ, σd, S, d, S1, M, e, q⟩ := h
      obtain ⟨d', Sb, e, e'⟩ := bnd_some e
      obtain ⟨c, Sa, e1, e⟩ := bnd_some (show bnd (tst ih bk sc a σd S) (fun b S1 => some (D.bl b, S1)) = some (d', Sb) from e)
      cases e
      cases e'
      exact ⟨ρ, σd, S, _, _, M, e1, q⟩
  | a :: b :: r => by
    obtain ⟨i1, i2⟩ := e_bool (pos := pos) I isAnd (b :: r)
    have step : ∀ {σd : Env1} {S : Sto} {d : D} {S1 : Sto}, evBool ih isAnd bk sc (a :: b :: r) σd S = some (d, S1) → ∃ c Sa, tst ih bk sc a σd S = some (c, Sa) ∧ ((c = isAnd ∧ evBool ih isAnd bk sc (b :: r) σd Sa = some (d, S1)) ∨ (c = !isAnd ∧ d = .bl c ∧ S1 = Sa)) := fun {σd S d S1} e => by
      obtain ⟨c, Sa, e1, e⟩ := bnd_some (show bnd (tst ih bk sc a σd S) (fun b' S1 => match b' == isAnd with | true => evBool ih isAnd bk sc (b :: r) σd S1 | false => some (D.bl b', S1)) = some (d, S1) from e)
      refine ⟨c, Sa, e1, ?_⟩
      cases hc : (c == isAnd) with
      | true =>
        rw [hc] at e
        exact .inl ⟨beq_iff_eq.mp hc, e⟩
      | false =>
        rw [hc] at e
        cases e
        refine .inr ⟨?_, rfl, rfl⟩
        have := beq_eq_false_iff_ne.mp hc
        cases c <;> cases isAnd <;> first | rfl | exact absurd rfl this
    constructor
    · cases isAnd with
      | true =>
        refine PE.imp (pe_and (I.e a) i1) fun σ H Q h => ?_
        obtain ⟨ρ, σd, S, d, S1, M, e, q⟩ := h
        obtain ⟨c, Sa, e1, e⟩ := step e
        refine ⟨ρ, σd, S, _, _, M, tst_eq e1, fun ρ1 H1 v p1 l1 M1 d1 => ⟨c, d1, ?_⟩⟩
        rcases e with ⟨rfl, e⟩ | ⟨rfl, rfl, rfl⟩
        · rw [if_pos rfl]
          exact ⟨ρ1, σd, Sa, d, S1, M1, e, fun ρ2 H2 v p2 l2 M2 d2 => q ρ2 H2 v (p1.trans p2) (l1.trans l2) M2 d2⟩
        · rw [if_neg (by decide)]
          exact q ρ1 H1 _ p1 l1 M1 rfl
      | false =>
        refine PE.imp (pe_or (I.e a) i1) fun σ H Q h => ?_
        obtain ⟨ρ, σd, S, d, S1, M, e, q⟩ := h
        obtain ⟨c, Sa, e1, e⟩ := step e
        refine ⟨ρ, σd, S, _, _, M, tst_eq e1, fun ρ1 H1 v p1 l1 M1 d1 => ⟨c, d1, ?_⟩⟩
        rcases e with ⟨rfl, e⟩ | ⟨rfl, rfl, rfl⟩
        · rw [if_neg (by decide)]
          exact ⟨ρ1, σd, Sa, d, S1, M1, e, fun ρ2 H2 v p2 l2 M2 d2 => q ρ2 H2 v (p1.trans p2) (l1.trans l2) M2 d2⟩
        · rw [if_pos (by decide)]
          exact q ρ1 H1 _ p1 l1 M1 rfl
    · have goes : ∀ (σ : L2.St) (H : Hp) (Q : Bool → Hp → Prop), tT g cl (fun σ S => bnd (evBool ih isAnd bk sc (a :: b :: r) σ S) fun d S1 => opt (asB d) fun b => some (b, S1)) σ H Q →
          tT g cl (tst ih bk sc a) σ H fun c H1 => if c = isAnd then tT g cl (fun σ S => bnd (evBool ih isAnd bk sc (b :: r) σ S) fun d S1 => opt (asB d) fun b => some (b, S1)) σ H1 Q else Q c H1 := fun σ H Q h => by
        obtain ⟨ρ, σd, S, d, S1, M, e, q⟩ := h
        obtain ⟨d', Sb, e, e'⟩ := bnd_some e
        obtain ⟨c, Sa, e1, e⟩ := step e
        refine ⟨ρ, σd, S, c, Sa, M, e1, fun ρ1 H1 p1 l1 M1 => ?_⟩
        rcases e with ⟨rfl, e⟩ | ⟨rfl, rfl, rfl⟩
        · rw [if_pos rfl]
          exact ⟨ρ1, σd, Sa, d, S1, M1, (by show bnd (evBool ih c bk sc (b :: r) σd Sa) _ = _; rw [e]; exact e'), fun ρ2 H2 p2 l2 M2 => q ρ2 H2 (p1.trans p2) (l1.trans l2) M2⟩
        · rw [if_neg (by cases isAnd <;> decide)]
          cases e'
          exact q ρ1 H1 p1 l1 M1
      cases isAnd with
      | true =>
        refine ⟨fun wh pins s σ H Q I' h => (pw_and (I.t a) i2).run wh pins s σ H Q I' ?_⟩
        obtain ⟨ρ, σd, S, c, Sa, M, e1, q⟩ := goes σ H Q h
        refine ⟨ρ, σd, S, c, Sa, M, e1, fun ρ1 H1 p1 l1 M1 => ?_⟩
        have q := q ρ1 H1 p1 l1 M1
        cases c with
        | true => exact q
        | false => exact q
      | false =>
        refine ⟨fun wh pins s σ H Q I' h => (pw_or (I.t a) i2).run wh pins s σ H Q I' ?_⟩
        obtain ⟨ρ, σd, S, c, Sa, M, e1, q⟩ := goes σ H Q h
        refine ⟨ρ, σd, S, c, Sa, M, e1, fun ρ1 H1 p1 l1 M1 => ?_⟩
        have q := q ρ1 H1 p1 l1 M1
        cases c with
        | true => exact q
        | false => exact q
end
end K76
end

/-! text Exp2 -/
section
namespace K76
open PySem PySem.Spec PyProof.Rows L2
section
variable {g : G} {C : Cx1} {X : Cx} {bk : Bool} {sc : Scope} {cl : ClF} {k : Nat} {ih : Ih}
/-! rows of expressions -/
/-- no starred one -/
def noStar : List Expr → Bool
  | [] => true
  | e :: r => match e with
    | .Starred _ _ => false
    | _ => noStar r
theorem star_cons {e : Expr} {es : List Expr} {env : Env} (h : ∀ x p, e ≠ .Starred x p) : starEach (e :: es) env = (false, eval e env) :: starEach es env := by
  cases e <;> first | rfl | exact absurd rfl (h _ _)
theorem never_e {e : Expr} : PE X e fun _ _ _ => False := ⟨fun _ _ _ _ _ _ h => h.elim⟩
theorem a_evs (I : IhE g X bk sc cl ih) (hs : ∀ x p, ih.e bk sc (.Starred x p) = fun _ _ => none) : ∀ es : List Expr, PA X es (tA g cl (evs ih bk sc es)) ∧ (∀ σ S r, evs ih bk sc es σ S = some r → ∀ x p, .Starred x p ∉ es)
  | [] => ⟨PA.imp pa_nil fun σ H Q h => by
      obtain ⟨ρ, σd, S, d, S1, M, e, q⟩ := h
      cases e
      exact q ρ H _ (Pre.refl _) (Le.refl _) M rfl, fun _ _ _ _ _ _ => by simp⟩
  | e :: r => by
    obtain ⟨i1, i2⟩ := a_evs I hs r
    by_cases hst : ∃ x p, e = .Starred x p
    · obtain ⟨x, p, rfl⟩ := hst
      have no : ∀ σ S, evs ih bk sc (.Starred x p :: r) σ S = none := fun σ S => by
        show bnd (ih.e bk sc (.Starred x p) σ S) _ = none
        rw [hs]
        rfl
      refine ⟨⟨fun pos pins s σ H Q I h => ?_⟩, fun σ S r' e => ?_⟩
      · obtain ⟨ρ, σd, S, d, S1, M, e, q⟩ := h
        rw [no] at e
        cases e
      · rw [no] at e
        cases e
    · have hn : ∀ x p, e ≠ .Starred x p := fun x p z => hst ⟨x, p, z⟩
      refine ⟨PA.imp (pa_cons (I.e e) i1 (star_cons hn)) fun σ H Q h => ?_, fun σ S r' h x p hm => ?_⟩
      · obtain ⟨ρ, σd, S, d, S1, M, e0, q⟩ := h
        obtain ⟨x, Sa, e1, e0⟩ := bnd_some (show bnd (ih.e bk sc e σd S) (fun d S1 => bnd (evs ih bk sc r σd S1) fun ds S2 => some (d :: ds, S2)) = some (d, S1) from e0)
        obtain ⟨xs, Sb, e2, e0⟩ := bnd_some e0
        cases e0
        exact ⟨ρ, σd, S, x, Sa, M, e1, fun ρ1 H1 v p1 l1 M1 d1 => ⟨ρ1, σd, Sa, xs, _, M1, e2, fun ρ2 H2 vs p2 l2 M2 d2 => q ρ2 H2 _ (p1.trans p2) (l1.trans l2) M2 ⟨v, vs, rfl, d1.mono p2 l2 (fun _ _ z => z), d2⟩⟩⟩
      · obtain ⟨d, Sa, e1, e0⟩ := bnd_some (show bnd (ih.e bk sc e σ S) (fun d S1 => bnd (evs ih bk sc r σ S1) fun ds S2 => some (d :: ds, S2)) = some r' from h)
        obtain ⟨xs, Sb, e2, e0⟩ := bnd_some e0
        rcases List.mem_cons.mp hm with z | z
        · exact hn x p z.symm
        · exact i2 σ Sa _ e2 x p z
theorem e_tuple (I : IhE g X bk sc cl ih) (hs : ∀ x p, ih.e bk sc (.Starred x p) = fun _ _ => none) {es : List Expr} {j : Nat} {pos : Pos} : PE X (.Tuple es j pos) (tE g cl fun σ S => bnd (evs ih bk sc es σ S) fun ds S1 => newT S1 ds) := by
  refine PE.imp (pe_tupS (a_evs I hs es).1) fun σ H Q h => ?_
  obtain ⟨ρ, σd, S, d, S1, M, e, q⟩ := h
  obtain ⟨ds, Sa, e1, e⟩ := bnd_some e
  unfold newT at e
  obtain ⟨e2, e⟩ := grd_some e
  cases e
  refine ⟨ρ, σd, S, ds, _, M, e1, fun ρ1 H1 vs p1 l1 M1 d1 => ⟨by rw [← d1.length]; exact line16 (small_le e2), fun p o hp ho => ?_⟩⟩
  exact q ρ1 _ _ p1 (l1.trans (le_new hp)) (M1.new hp) ⟨p, vs, rfl, SqS.of upd_same ho, d1.mono (Pre.refl _) (le_new hp) fun _ _ z => z⟩
theorem e_list (I : IhE g X bk sc cl ih) (hs : ∀ x p, ih.e bk sc (.Starred x p) = fun _ _ => none) {es : List Expr} {pos : Pos} : PE X (.List es pos) (tE g cl fun σ S => bnd (evs ih bk sc es σ S) fun ds S1 => newL S1 ds) := by
  refine PE.imp (pe_lst (a_evs I hs es).1) fun σ H Q h => ?_
  obtain ⟨ρ, σd, S, d, S1, M, e, q⟩ := h
  obtain ⟨ds, Sa, e1, e⟩ := bnd_some e
  unfold newL at e
  obtain ⟨e2, e⟩ := grd_some e
  cases e
  refine ⟨ρ, σd, S, ds, Sa, M, e1, fun ρ1 H1 vs p1 l1 M1 d1 => ⟨by rw [← d1.length]; exact line16 (small_le e2), fun p hp => ?_⟩⟩
  have F : Fin g (cl σd σ) ρ1 H1 σd σ (.loc Sa.length) (Sa ++ [.lst ds]) Q := ⟨fun ρ' H' v pp ll MM dd => q ρ' H' v (p1.trans pp) (l1.trans ll) MM dd⟩
  exact F.lst M1 d1 hp
/-! comparisons -/
theorem never_t {e : Expr} : PT X e fun _ _ _ => False := ⟨fun _ _ _ _ _ _ h => h.elim⟩
/-- a set display of constants behind in -/
theorem mark_set {op : CmpOp} {e : Expr} (h : ∀ es j p, e ≠ .Set es j p) : behindInMarks op e = false := by
  cases e <;> first | rfl | exact absurd rfl (h _ _ _)
theorem cmp_one (I : IhE g X bk sc cl ih) (hP : X.prog = g.P) (hw : X.w = g.w) (hK : X.K = g.K) (hr : Room k X.A) (hset : ∀ es j p, ih.e bk sc (.Set es j p) = fun _ _ => none) {a b : Expr} {op : CmpOp} {pos : Pos} :
    PE X (.Compare a [op] [b] pos) (tE g cl fun σ S => bnd (evCmp ih bk sc a [op] [b] σ S) fun b S1 => some (.bl b, S1)) ∧ PT X (.Compare a [op] [b] pos) (tT g cl (evCmp ih bk sc a [op] [b])) := by
  by_cases hb : ∃ es j p, b = .Set es j p
  · obtain ⟨es, j, p, rfl⟩ := hb
    have no : ∀ σ S, evCmp ih bk sc a [op] [.Set es j p] σ S = none := fun σ S => by
      cases q : evCmp ih bk sc a [op] [.Set es j p] σ S with
      | none => rfl
      | some r =>
        obtain ⟨x, Sa, e1, e⟩ := bnd_some (show bnd (ih.e bk sc a σ S) (fun x S1 => bnd (ih.e bk sc (.Set es j p) σ S1) fun y S2 => opt (cmpD S2 op x y) fun b => some (b, S2)) = some r from q)
        rw [hset] at e
        cases e
    refine ⟨PE.imp never_e fun σ H Q h => ?_, PT.imp never_t fun σ H Q h => ?_⟩
    · obtain ⟨ρ, σd, S, d, S1, M, e, q⟩ := h
      obtain ⟨c, Sc, e, e'⟩ := bnd_some e
      rw [no] at e
      cases e
    · obtain ⟨ρ, σd, S, d, S1, M, e, q⟩ := h
      rw [no] at e
      cases e
  · have hm : behindInMarks op b = false := mark_set fun es j p z => hb ⟨es, j, p, z⟩
    have o := o_cmp (g := g) hP hw hK hr op
    constructor
    · refine PE.imp (pe_cmpR o (I.e a) (I.e b) hm) fun σ H Q h => ?_
      obtain ⟨ρ, σd, S, d, S1, M, e, q⟩ := h
      obtain ⟨c, Sc, e, e'⟩ := bnd_some e
      cases e'
      obtain ⟨x, Sa, e1, e⟩ := bnd_some (show bnd (ih.e bk sc a σd S) (fun x S1 => bnd (ih.e bk sc b σd S1) fun y S2 => opt (cmpD S2 op x y) fun b => some (b, S2)) = some _ from e)
      obtain ⟨y, Sb, e2, e⟩ := bnd_some e
      obtain ⟨c', e3, e⟩ := opt_some e
      cases e
      exact ⟨ρ, σd, S, x, Sa, M, e1, fun ρ1 H1 v p1 l1 M1 d1 => ⟨ρ1, σd, Sa, y, _, M1, e2, fun ρ2 H2 u p2 l2 M2 d2 => ⟨_, ρ2, _, σd, σ, x, y, _, M2, d1.mono p2 l2 (fun _ _ z => z), d2, e3, q ρ2 H2 _ (p1.trans p2) (l1.trans l2) M2 rfl⟩⟩⟩
    · refine PT.imp (pt_cmpR o (I.e a) (I.e b) hm) fun σ H Q h => ?_
      obtain ⟨ρ, σd, S, d, S1, M, e, q⟩ := h
      obtain ⟨x, Sa, e1, e⟩ := bnd_some (show bnd (ih.e bk sc a σd S) (fun x S1 => bnd (ih.e bk sc b σd S1) fun y S2 => opt (cmpD S2 op x y) fun b => some (b, S2)) = some _ from e)
      obtain ⟨y, Sb, e2, e⟩ := bnd_some e
      obtain ⟨c', e3, e⟩ := opt_some e
      cases e
      exact ⟨ρ, σd, S, x, Sa, M, e1, fun ρ1 H1 v p1 l1 M1 d1 => ⟨ρ1, σd, Sa, y, _, M1, e2, fun ρ2 H2 u p2 l2 M2 d2 => ⟨_, ρ2, _, σd, σ, x, y, _, M2, d1.mono p2 l2 (fun _ _ z => z), d2, e3, _, rfl, q ρ2 H2 (p1.trans p2) (l1.trans l2) M2⟩⟩⟩
theorem cmp_two (I : IhE g X bk sc cl ih) (hP : X.prog = g.P) (hw : X.w = g.w) (hK : X.K = g.K) (hr : Room k X.A) {a b c : Expr} {op op' : CmpOp} {pos : Pos} :
    PE X (.Compare a [op, op'] [b, c] pos) (tE g cl fun σ S => bnd (evCmp ih bk sc a [op, op'] [b, c] σ S) fun b S1 => some (.bl b, S1)) ∧ PT X (.Compare a [op, op'] [b, c] pos) (tT g cl (evCmp ih bk sc a [op, op'] [b, c])) := by
  have o := o_cmp (g := g) hP hw hK hr op
  have o' := o_cmp (g := g) hP hw hK hr op'
  have step : ∀ {σd : Env1} {S S1 : Sto} {r : Bool}, evCmp ih bk sc a [op, op'] [b, c] σd S = some (r, S1) → isSetE c = false ∧ ∃ x Sa y Sb k, ih.e bk sc a σd S = some (x, Sa) ∧ ih.e bk sc b σd Sa = some (y, Sb) ∧ cmpD Sb op x y = some k ∧
      (k = true ∧ (∃ z, ih.e bk sc c σd Sb = some (z, S1) ∧ cmpD S1 op' y z = some r) ∨ k = false ∧ r = false ∧ S1 = Sb) := fun {σd S S1 r} e => by
    obtain ⟨e0, e⟩ := grd_some (show grd (!isSetE c) (bnd (ih.e bk sc a σd S) (fun x S1 => bnd (ih.e bk sc b σd S1) fun y S2 => opt (cmpD S2 op x y) fun b => match b with | true => bnd (ih.e bk sc c σd S2) fun z S3 => opt (cmpD S3 op' y z) fun b' => some (b', S3) | false => some (false, S2))) = some (r, S1) from e)
    obtain ⟨x, Sa, e1, e⟩ := bnd_some e
    obtain ⟨y, Sb, e2, e⟩ := bnd_some e
    obtain ⟨k, e3, e⟩ := opt_some e
    refine ⟨by simpa using e0, x, Sa, y, Sb, k, e1, e2, e3, ?_⟩
    cases k with
    | true =>
      obtain ⟨z, Sc, e4, e⟩ := bnd_some e
      obtain ⟨r', e5, e⟩ := opt_some e
      cases e
      exact .inl ⟨rfl, z, e4, e5⟩
    | false =>
      cases e
      exact .inr ⟨rfl, rfl, rfl⟩
  by_cases hb : ∃ es j p, c = .Set es j p
  · obtain ⟨es, j, p, rfl⟩ := hb
    refine ⟨PE.imp never_e fun σ H Q h => ?_, PT.imp never_t fun σ H Q h => ?_⟩
    · obtain ⟨ρ, σd, S, d, S1, M, e, q⟩ := h
      obtain ⟨r, Sc, e, e'⟩ := bnd_some e
      cases (step e).1
    · obtain ⟨ρ, σd, S, d, S1, M, e, q⟩ := h
      cases (step e).1
  · have hm : lastMarks [op, op'] [b, c] = false := by
      show behindInMarks op' c = false
      exact mark_set fun es j p z => hb ⟨es, j, p, z⟩
    have red : ∀ (σ : L2.St) (H : Hp) (R : Bool → Hp → Prop) (Q : VK), (∀ r H', R r H' → Q (.bl r) H') → tT g cl (evCmp ih bk sc a [op, op'] [b, c]) σ H R →
        tChain (rC2 g fun S => cmpD S op) (rC2 g fun S => cmpD S op') (tE g cl (ih.e bk sc a)) (tE g cl (ih.e bk sc b)) (tE g cl (ih.e bk sc c)) σ H Q := fun σ H R Q hQ h => by
      obtain ⟨ρ, σd, S, r, S1, M, e, q⟩ := h
      obtain ⟨_, x, Sa, y, Sb, kk, e1, e2, e3, e4⟩ := step e
      refine ⟨ρ, σd, S, x, Sa, M, e1, fun ρ1 H1 v p1 l1 M1 d1 => ⟨ρ1, σd, Sa, y, Sb, M1, e2, fun ρ2 H2 u p2 l2 M2 d2 => ⟨_, ρ2, Sb, σd, σ, x, y, kk, M2, d1.mono p2 l2 (fun _ _ z => z), d2, e3, kk, rfl, ?_⟩⟩⟩
      rcases e4 with ⟨rfl, z, e4, e5⟩ | ⟨rfl, rfl, rfl⟩
      · rw [if_pos rfl]
        exact ⟨ρ2, σd, Sb, z, S1, M2, e4, fun ρ3 H3 t p3 l3 M3 d3 => ⟨_, ρ3, S1, σd, σ, y, z, r, M3, d2.mono p3 l3 (fun _ _ z => z), d3, e5, hQ _ _ (q ρ3 H3 ((p1.trans p2).trans p3) ((l1.trans l2).trans l3) M3)⟩⟩
      · rw [if_neg Bool.false_ne_true]
        exact hQ _ _ (q ρ2 H2 (p1.trans p2) (l1.trans l2) M2)
    constructor
    · refine PE.imp (pe_chain o o' (I.e a) (I.e b) (I.e c) hm) fun σ H Q h => ?_
      obtain ⟨ρ, σd, S, d, S1, M, e, q⟩ := h
      obtain ⟨r, Sc, e, e'⟩ := bnd_some e
      cases e'
      exact red σ H (fun r H' => Q (.bl r) H') Q (fun _ _ z => z) ⟨ρ, σd, S, r, _, M, e, fun ρ1 H1 p1 l1 M1 => q ρ1 H1 _ p1 l1 M1 rfl⟩
    · refine PT.imp (pt_chain o o' (I.e a) (I.e b) (I.e c) hm) fun σ H Q h => ?_
      exact red σ H Q _ (fun r H' z => ⟨r, rfl, z⟩) h
end
end K76
end

/-! text Exp3 -/
section
namespace K76
open PySem PySem.Spec PyProof.Rows L2
section
variable {g : G} {C : Cx1} {X : Cx} {bk : Bool} {sc : Scope} {cl : ClF} {k : Nat} {ih : Ih}
/-! subscripts -/
def tO (g : G) (cl : ClF) (f : Env1 → Sto → Option (Option Int × Sto)) : TO := fun σ H Q => ∃ ρ σd S d S1, Sim g (cl σd σ) ρ S H σd σ ∧ f σd S = some (d, S1) ∧
  ∀ ρ' H', Pre ρ ρ' → Le H H' → Sim g (cl σd σ) ρ' S1 H' σd σ → Q d H'
theorem PO.imp {e : Option Expr} {t t' : TO} (h : PO X e t) (i : ∀ σ H Q, t' σ H Q → t σ H Q) : PO X e t' := ⟨fun pins s σ H Q I q => h.run pins s σ H Q I (i _ _ _ q)⟩
theorem o_part (I : IhE g X bk sc cl ih) : ∀ o : Option Expr, PO X o (tO g cl (evO ih bk sc o))
  | none => PO.imp po_none fun σ H Q h => by
    obtain ⟨ρ, σd, S, d, S1, M, e, q⟩ := h
    cases e
    exact q ρ H (Pre.refl _) (Le.refl _) M
  | some e => PO.imp (po_some (I.e e)) fun σ H Q h => by
    obtain ⟨ρ, σd, S, d, S1, M, e0, q⟩ := h
    obtain ⟨x, Sa, e1, e0⟩ := bnd_some (show bnd (ih.e bk sc e σd S) (fun d S1 => opt (asI d) fun i => some (some i, S1)) = some (d, S1) from e0)
    obtain ⟨i, e2, e0⟩ := opt_some e0
    cases e0
    exact ⟨ρ, σd, S, x, _, M, e1, fun ρ1 H1 v p1 l1 M1 d1 => ⟨i, d1.int e2, q ρ1 H1 p1 l1 M1⟩⟩
theorem e_slice (I : IhE g X bk sc cl ih) (hK : X.K = g.K) {a : Expr} {lo hi : Option Expr} {p2 pos : Pos} : PE X (.Subscript a (.Slice lo hi none p2) pos) (tE g cl fun σ S => bnd (ih.e bk sc a σ S) fun x S1 =>
    bnd (evO ih bk sc lo σ S1) fun i S2 => bnd (evO ih bk sc hi σ S2) fun j S3 => slD S3 x i j) := by
  refine PE.imp (pe_slice (o_sl (g := g) hK) (I.e a) (o_part I lo) (o_part I hi)) fun σ H Q h => ?_
  obtain ⟨ρ, σd, S, d, S1, M, e, q⟩ := h
  obtain ⟨x, Sa, e1, e⟩ := bnd_some e
  obtain ⟨i, Sb, e2, e⟩ := bnd_some e
  obtain ⟨j, Sc, e3, e⟩ := bnd_some e
  exact ⟨ρ, σd, S, x, Sa, M, e1, fun ρ1 H1 v p1 l1 M1 d1 => ⟨ρ1, σd, Sa, i, Sb, M1, e2, fun ρ2 H2 p2 l2 M2 => ⟨ρ2, σd, Sb, j, Sc, M2, e3, fun ρ3 H3 p3 l3 M3 =>
    ⟨_, ρ3, Sc, σd, σ, x, d, S1, M3, d1.mono (p2.trans p3) (l2.trans l3) (fun _ _ z => z), e, ⟨fun ρ4 H4 w p4 l4 M4 d4 => q ρ4 H4 w (((p1.trans p2).trans p3).trans p4) (((l1.trans l2).trans l3).trans l4) M4 d4⟩⟩⟩⟩⟩
theorem plain_ix {s : Expr} (h : ∀ lo hi st p, s ≠ .Slice lo hi st p) : PlainIx s := fun o i => by
  cases s <;> first | rfl | exact absurd rfl (h _ _ _ _)
theorem e_index (I : IhE g X bk sc cl ih) (hP : X.prog = g.P) (hw : X.w = g.w) (hK : X.K = g.K) (hr : Room k X.A) {a s : Expr} {pos : Pos} (hs : ∀ lo hi st p, s ≠ .Slice lo hi st p) :
    PE X (.Subscript a s pos) (tE g cl fun σ S => bnd (ih.e bk sc a σ S) fun x S1 => bnd (ih.e bk sc s σ S1) fun y S2 => opt (ixD S2 x y) fun d => some (d, S2)) := by
  refine PE.imp (pe_ix (o_ix (g := g) hP hw hK hr) (I.e a) (I.e s) (plain_ix hs)) fun σ H Q h => ?_
  obtain ⟨ρ, σd, S, d, S1, M, e, q⟩ := h
  obtain ⟨x, Sa, e1, e⟩ := bnd_some e
  obtain ⟨y, Sb, e2, e⟩ := bnd_some e
  obtain ⟨d', e3, e⟩ := opt_some e
  cases e
  exact ⟨ρ, σd, S, x, Sa, M, e1, fun ρ1 H1 v p1 l1 M1 d1 => ⟨ρ1, σd, Sa, y, _, M1, e2, fun ρ2 H2 u p2 l2 M2 d2 => ⟨_, ρ2, _, σd, σ, x, y, d, M2, d1.mono p2 l2 (fun _ _ z => z), d2, e3, fun v h => q ρ2 H2 v (p1.trans p2) (l1.trans l2) M2 h⟩⟩⟩
/-! fields -/
theorem base_eq {e : Expr} {f : Str} (h : isCallE e = false) (w : Sem Value) : attributeBase e f X.env w = w := by
  cases e with
  | Call fn as ks pos =>
    cases as with
    | cons _ _ => cases fn <;> rfl
    | nil =>
      cases ks with
      | cons _ _ => cases fn <;> rfl
      | nil => cases h
  | _ => rfl
theorem FsR.find {ρ : List Addr} {H : Hp} {cl : Cl} {f : Str} : ∀ {fs : List (Str × D)} {vs : List (Str × V)} {d : D}, FsR g ρ H cl fs vs → look f fs = some d → ∃ v, vs.lookup f = some v ∧ DV g ρ H cl d v
  | [], _, _, _, e => by cases e
  | p :: r, _, d, h, e => by
    obtain ⟨v, q, rfl, h1, h2⟩ := h
    rw [look] at e
    rw [List.lookup_cons]
    cases he : eqS p.1 f with
    | true =>
      rw [he] at e
      cases e
      have := eqS_iff.mp he
      subst this
      simp only [beq_self_eq_true]
      exact ⟨v, rfl, h1⟩
    | false =>
      rw [he] at e
      have hne : (f == p.1) = false := beq_eq_false_iff_ne.mpr (Ne.symm (eqS_ne he))
      rw [hne]
      exact FsR.find h2 e
theorem Sim.ins {ρ : List Addr} {H : Hp} {cl : Cl} {S : Sto} {σd : Env1} {σ : L2.St} (M : Sim g cl ρ S H σd σ) {n : Nat} {c : Str} {fs : List (Str × D)} {v : V} (h : DV g ρ H cl (.loc n) v) (e : S[n]? = some (.ins c fs)) :
    ∃ a Ca dx fvs, v = .ref a ∧ ρ[n]? = some a ∧ g.mg c = some (.ref Ca) ∧ H a = some (.ins Ca dx fvs) ∧ FsR g ρ H cl fs fvs := by
  obtain ⟨a, e1, Ca, dx, fvs, h1, h2, h3⟩ := M.rel.addr e
  obtain ⟨a', e2, rfl⟩ := h
  rw [e1] at e2
  cases e2
  exact ⟨a, Ca, dx, fvs, rfl, e1, h1, h2, h3⟩
theorem getAt_some {P : Prog1} {o : D} {f : Str} {S : Sto} {d : D} (h : getAt P o f S = some d) : ∃ n c fs, o = .loc n ∧ S[n]? = some (.ins c fs) ∧ isFld P c f = true ∧ look f fs = some d := by
  unfold getAt at h
  cases o with
  | loc n =>
    obtain ⟨ob, e, h⟩ := opt_some h
    rw [nth_eq] at e
    cases ob with
    | ins c fs =>
      obtain ⟨e2, h⟩ := grd_some h
      exact ⟨n, c, fs, rfl, e, e2, h⟩
    | _ => cases h
  | _ => cases h
theorem e_attr (F : Facts g C.P) (I : IhE g X bk sc cl ih) (hK : X.K = g.K) {o : Expr} {f : Str} {pos : Pos} : PE X (.Attribute o f pos) (tE g cl fun σ S => grd (!isCallE o) (bnd (ih.e bk sc o σ S) fun x S1 => opt (getAt C.P x f S1) fun d => some (d, S1))) := by
  cases hc : isCallE o with
  | true =>
    refine PE.imp never_e fun σ H Q h => ?_
    obtain ⟨ρ, σd, S, d, S1, M, e, q⟩ := h
    cases (grd_some e).1
  | false =>
    refine PE.imp (pe_fld (I.e o) (base_eq hc _)) fun σ H Q h => ?_
    obtain ⟨ρ, σd, S, d, S1, M, e, q⟩ := h
    obtain ⟨_, e⟩ := grd_some e
    obtain ⟨x, Sa, e1, e⟩ := bnd_some e
    obtain ⟨d', e2, e⟩ := opt_some e
    cases e
    refine ⟨ρ, σd, S, x, _, M, e1, fun ρ1 H1 v p1 l1 M1 d1 => ?_⟩
    obtain ⟨n, c, fs, rfl, e3, e4, e5⟩ := getAt_some e2
    obtain ⟨a, Ca, dx, fvs, rfl, _, h2, h3, h4⟩ := M1.ins d1 e3
    obtain ⟨v, h5, h6⟩ := h4.find e5
    obtain ⟨f1, f2⟩ := F.fld c f Ca e4 h2
    rw [hK]
    exact ⟨a, Ca, dx, fvs, v, rfl, h3, f1, f2, h5, q ρ1 H1 v p1 l1 M1 h6⟩
/-! f-strings -/
end
end K76
end

/-! text Tgt -/
section
namespace K76
open PySem PySem.Spec PyProof.Rows L2
section
variable {g : G} {C : Cx1} {X : Cx} {bk : Bool} {sc : Scope} {cl : ClF} {k : Nat} {ih : Ih}
/-- only slots of the target's names change -/
structure Kept1 (C : Cx1) (sc : Scope) (ns : List Str) (σ σ' : L2.St) : Prop where
  len : σ'.length = σ.length
  out : ∀ (i : Nat), (∀ x, C.N[i]? = some x → x ∈ ns → isLoc sc x = true → False) → σ'[i]? = σ[i]?
theorem Kept1.refl (ns : List Str) (σ : L2.St) : Kept1 C sc ns σ σ := ⟨rfl, fun _ _ => rfl⟩
theorem Kept1.trans {ns ms : List Str} {σ σ1 σ2 : L2.St} (a : Kept1 C sc ns σ σ1) (b : Kept1 C sc ms σ1 σ2) : Kept1 C sc (ns ++ ms) σ σ2 := ⟨b.len.trans a.len, fun i h => (b.out i fun x h1 h2 h3 => h x h1 (List.mem_append_right _ h2) h3).trans (a.out i fun x h1 h2 h3 => h x h1 (List.mem_append_left _ h2) h3)⟩
/-- how a store moves what is known of cells -/
def ClUp (C : Cx1) (sc : Scope) (cl : ClF) : Prop := ∀ (σd : Env1) (σ : L2.St) (i : Nat) (x : Str) (d : D) (v : V), C.N[i]? = some x → isLoc sc x = true → (hasS x C.caps = true → σd[i]? = some none) → ClLe (cl σd σ) (cl (σd.set i (some d)) (σ.set i (some v)))
def tG (g : G) (C : Cx1) (sc : Scope) (cl : ClF) (ns : List Str) (f : D → Env1 → Sto → Option Env1) : TG := fun v σ H Q => ∃ ρ σd S d σd1, Sim g (cl σd σ) ρ S H σd σ ∧ DV g ρ H (cl σd σ) d v ∧ f d σd S = some σd1 ∧
  ∀ σ', Sim g (cl σd1 σ') ρ S H σd1 σ' → ClLe (cl σd σ) (cl σd1 σ') → Kept1 C sc ns σ σ' → Q σ' H
def tGs (g : G) (C : Cx1) (sc : Scope) (cl : ClF) (ns : List Str) (f : List D → Env1 → Sto → Option Env1) : TGs := fun vs σ H Q => ∃ ρ σd S ds σd1, Sim g (cl σd σ) ρ S H σd σ ∧ DVs g ρ H (cl σd σ) ds vs ∧ f ds σd S = some σd1 ∧
  ∀ σ', Sim g (cl σd1 σ') ρ S H σd1 σ' → ClLe (cl σd σ) (cl σd1 σ') → Kept1 C sc ns σ σ' → Q σ' H
/-- a new pair, known as a tuple only -/
def DW (g : G) (ρ : List Addr) (H : Hp) (cl : Cl) (d : D) (v : V) : Prop := ∃ ds a vs, d = .tup ds ∧ v = .ref a ∧ SqT g.K H a vs ∧ DVs g ρ H cl ds vs
def tGw (g : G) (C : Cx1) (sc : Scope) (cl : ClF) (ns : List Str) (wk : Bool) (f : D → Env1 → Sto → Option Env1) : TG := fun v σ H Q => ∃ ρ σd S d σd1, Sim g (cl σd σ) ρ S H σd σ ∧ (DV g ρ H (cl σd σ) d v ∨ (wk = true ∧ DW g ρ H (cl σd σ) d v)) ∧ f d σd S = some σd1 ∧
  ∀ σ', Sim g (cl σd1 σ') ρ S H σd1 σ' → ClLe (cl σd σ) (cl σd1 σ') → Kept1 C sc ns σ σ' → Q σ' H
theorem PG.imp {t : Expr} {a b : TG} (h : PG X t a) (i : ∀ v σ H Q, b v σ H Q → a v σ H Q) : PG X t b := ⟨fun pins s σ H v u Q I r q => h.run pins s σ H v u Q I r (i _ _ _ _ q)⟩
theorem PG.or {t : Expr} {a b : TG} (h : PG X t a) (h' : PG X t b) : PG X t fun v σ H Q => a v σ H Q ∨ b v σ H Q := ⟨fun pins s σ H v u Q I r q => q.elim (h.run pins s σ H v u Q I r) (h'.run pins s σ H v u Q I r)⟩
theorem PGs.imp {t : List Expr} {a b : TGs} (h : PGs X t a) (i : ∀ v σ H Q, b v σ H Q → a v σ H Q) : PGs X t b := ⟨fun pins s σ H v u Q I r q => h.run pins s σ H v u Q I r (i _ _ _ _ q)⟩
theorem never_g {t : Expr} : PG X t fun _ _ _ _ => False := ⟨fun _ _ _ _ _ _ _ _ _ h => h.elim⟩
theorem never_gs {t : List Expr} : PGs X t fun _ _ _ _ => False := ⟨fun _ _ _ _ _ _ _ _ _ h => h.elim⟩
theorem g_name (Gd : Good g C X bk sc cl k) (up : ClUp C sc cl) {x : Str} {pos : Pos} : PG X (.Name x pos) (tG g C sc cl [x] fun d σ _ => asgN C sc x d σ) := by
  cases hl : isLoc sc x with
  | false =>
    refine PG.imp never_g fun v σ H Q h => ?_
    obtain ⟨ρ, σd, S, d, σd1, M, hv, e, q⟩ := h
    obtain ⟨e1, _⟩ := grd_some e
    rw [hl] at e1
    cases e1
  | true =>
    cases hf : findIx x C.N 0 with
    | none =>
      refine PG.imp never_g fun v σ H Q h => ?_
      obtain ⟨ρ, σd, S, d, σd1, M, hv, e, q⟩ := h
      obtain ⟨_, e⟩ := grd_some e
      obtain ⟨i, e, _⟩ := opt_some e
      rw [hf] at e
      cases e
    | some i =>
      refine PG.imp (pg_name (X := X) (i := i) (x := x) (by rw [Gd.N]; exact Gd.nd) (by rw [Gd.N]; exact findIx_0 hf) (Gd.scr.loc x hl) (Gd.fn x hl)) fun v σ H Q h => ?_
      obtain ⟨ρ, σd, S, d, σd1, M, hv, e, q⟩ := h
      obtain ⟨_, e⟩ := grd_some e
      obtain ⟨j, e1, e⟩ := opt_some e
      rw [hf] at e1
      cases e1
      obtain ⟨o, e2, e⟩ := opt_some e
      obtain ⟨e3, e⟩ := grd_some e
      cases e
      rw [nth_eq] at e2
      rw [setN_eq] at q
      have hN := findIx_0 hf
      have hi : i < σd.length := (List.getElem?_eq_some_iff.mp e2).1
      have hi2 : i < σ.length := by rw [← M.env.len]; exact hi
      have lecl := up σd σ i x d v hN hl (fun z => by
        rw [z] at e3
        rw [e2]
        cases o with
        | none => rfl
        | some _ => cases e3)
      refine q (σ.set i (some v)) ⟨M.rel.clm lecl, ⟨by rw [List.length_set, List.length_set]; exact M.env.len, fun j d' e => ?_⟩⟩ lecl ⟨by rw [List.length_set], fun j h1 => ?_⟩
      · by_cases hj : j = i
        · subst hj
          rw [List.getElem?_set_self hi] at e
          cases e
          exact ⟨v, List.getElem?_set_self hi2, hv.mono (Pre.refl _) (Le.refl _) lecl⟩
        · rw [List.getElem?_set_ne (Ne.symm hj)] at e
          obtain ⟨v', h1, h2⟩ := M.env.at_ j d' e
          exact ⟨v', by rw [List.getElem?_set_ne (Ne.symm hj)]; exact h1, h2.mono (Pre.refl _) (Le.refl _) lecl⟩
      · by_cases hj : j = i
        · subst hj
          exact (h1 x hN (by simp) hl).elim
        · rw [List.getElem?_set_ne (Ne.symm hj)]
theorem each_star {e : Expr} {es : List Expr} {env : Env} (h : ∀ x p, e ≠ .Starred x p) : assignEach (e :: es) env = (false, assign e env) :: assignEach es env := by
  cases e <;> first | rfl | exact absurd rfl (h _ _)
theorem each_len (env : Env) : ∀ es : List Expr, (assignEach es env).length = es.length
  | [] => rfl
  | e :: r => by
    cases e <;> (show _ + 1 = _ + 1; rw [each_len env r])
theorem each_find (env : Env) : ∀ es : List Expr, (∀ x p, .Starred x p ∉ es) → (assignEach es env).findIdx? (·.1) = none
  | [], _ => rfl
  | e :: r, h => by
    rw [each_star (fun x p z => h x p (by rw [z]; simp))]
    rw [List.findIdx?_cons]
    rw [each_find env r (fun x p z => h x p (List.mem_cons_of_mem _ z))]
    rfl
/-- a tuple target by its parts -/
theorem g_tup (Gd : Good g C X bk sc cl k) {ts : List Expr} {j : Nat} {pos : Pos} {n : Nat} (h : PGs X ts (tGs g C sc cl (tgNss ts) fun ds σ S => asgTs C sc S n ts ds σ)) (hst : (∃ ds σ S r, asgTs C sc S n ts ds σ = some r) → ∀ x p, .Starred x p ∉ ts) (hlen : ∀ ds σ S r, asgTs C sc S n ts ds σ = some r → ds.length = ts.length) :
    PG X (.Tuple ts j pos) (tGw g C sc cl (tgNss ts) true fun d σ S => match d with
      | .tup ds => asgTs C sc S n ts ds σ
      | .loc m => opt (asL S (.loc m)) fun ds => asgTs C sc S n ts ds σ
      | _ => none) := by
  by_cases hs : ∀ x p, .Starred x p ∉ ts
  · refine PG.imp (PG.or (pg_tup Gd.calm h (each_len _ _) (each_find _ _ hs)) (pg_lst Gd.calm h (each_len _ _) (each_find _ _ hs))) fun v σ H Q q => ?_
    obtain ⟨ρ, σd, S, d, σd1, M, hv, e, q⟩ := q
    cases d with
    | tup ds =>
      obtain ⟨a, vs, rfl, h1, h2⟩ : ∃ a vs, v = .ref a ∧ SqT g.K H a vs ∧ DVs g ρ H (cl σd σ) ds vs := by
        rcases hv with ⟨a, vs, e1, h1, h2⟩ | ⟨_, ds', a, vs, e0, e1, h1, h2⟩
        · exact ⟨a, vs, e1, h1.sq, h2⟩
        · cases e0
          exact ⟨a, vs, e1, h1, h2⟩
      exact .inl ⟨a, vs, rfl, by rw [Gd.K]; exact h1, by rw [← h2.length]; exact hlen _ _ _ _ e, ρ, σd, S, ds, σd1, M, h2, e, q⟩
    | loc m =>
      obtain ⟨ds, e1, e⟩ := opt_some e
      have hv : DV g ρ H (cl σd σ) (.loc m) v := hv.elim id fun ⟨_, _, _, _, e0, _⟩ => nomatch e0
      obtain ⟨_, a, vs, _, _, rfl, h1, h2⟩ := M.lst hv e1
      exact .inr ⟨a, vs, rfl, SqL.of h1, by rw [← h2.length]; exact hlen _ _ _ _ e, ρ, σd, S, ds, σd1, M, h2, e, q⟩
    | _ => cases e
  · refine PG.imp never_g fun v σ H Q q => ?_
    obtain ⟨ρ, σd, S, d, σd1, M, hv, e, q⟩ := q
    cases d with
    | tup ds => exact hs (hst ⟨_, _, _, _, e⟩)
    | loc m =>
      obtain ⟨ds, e1, e⟩ := opt_some e
      exact hs (hst ⟨_, _, _, _, e⟩)
    | _ => cases e
mutual
theorem g_asgT (Gd : Good g C X bk sc cl k) (up : ClUp C sc cl) : ∀ (n : Nat) (t : Expr), PG X t (tG g C sc cl (tgNs t) fun d σ S => asgT C sc S n t d σ) ∧ ((∃ d σ S r, asgT C sc S n t d σ = some r) → ∀ x p, t ≠ .Starred x p)
  | 0, t => by
    refine ⟨PG.imp never_g fun v σ H Q h => ?_, fun h => ?_⟩
    · obtain ⟨ρ, σd, S, d, σd1, M, hv, e, q⟩ := h
      cases e
    · obtain ⟨_, _, _, _, e⟩ := h
      cases e
  | n + 1, t => by
    have never : (∀ d σ S, asgT C sc S (n + 1) t d σ = none) → PG X t (tG g C sc cl (tgNs t) fun d σ S => asgT C sc S (n + 1) t d σ) ∧ ((∃ d σ S r, asgT C sc S (n + 1) t d σ = some r) → ∀ x p, t ≠ .Starred x p) := fun hn => by
      refine ⟨PG.imp never_g fun v σ H Q h => ?_, fun h => ?_⟩
      · obtain ⟨ρ, σd, S, d, σd1, M, hv, e, q⟩ := h
        have e := (hn d σd S).symm.trans e
        cases e
      · obtain ⟨d, σ, S, r, e⟩ := h
        rw [hn] at e
        cases e
    cases t with
    | Name x pos => exact ⟨g_name Gd up, fun _ _ _ => by simp⟩
    | Tuple ts j pos =>
      obtain ⟨i1, i2, i3⟩ := g_asgTs Gd up n ts
      exact ⟨PG.imp (g_tup Gd i1 i2 i3) fun v σ H Q q => by
        obtain ⟨ρ, σd, S, d, σd1, M, hv, e, q⟩ := q
        exact ⟨ρ, σd, S, d, σd1, M, .inl hv, e, q⟩, fun _ _ _ => by simp⟩
    | _ => exact never fun _ _ _ => rfl
theorem g_asgTs (Gd : Good g C X bk sc cl k) (up : ClUp C sc cl) : ∀ (n : Nat) (ts : List Expr), PGs X ts (tGs g C sc cl (tgNss ts) fun ds σ S => asgTs C sc S n ts ds σ) ∧ ((∃ ds σ S r, asgTs C sc S n ts ds σ = some r) → ∀ x p, .Starred x p ∉ ts) ∧ (∀ ds σ S r, asgTs C sc S n ts ds σ = some r → ds.length = ts.length)
  | 0, ts => by
    refine ⟨PGs.imp never_gs fun v σ H Q h => ?_, fun h => ?_, fun _ _ _ _ e => by cases ts <;> cases e⟩
    · obtain ⟨ρ, σd, S, d, σd1, M, hv, e, q⟩ := h
      cases ts <;> cases e
    · obtain ⟨_, _, _, _, e⟩ := h
      cases ts <;> cases e
  | n + 1, [] => by
    refine ⟨PGs.imp pgs_nil fun v σ H Q h => ?_, fun _ _ _ => by simp, fun ds _ _ _ e => ?_⟩
    · obtain ⟨ρ, σd, S, ds, σd1, M, hv, e, q⟩ := h
      cases ds with
      | nil =>
        cases e
        exact ⟨hv, q σ M (fun _ _ z => z) (Kept1.refl _ _)⟩
      | cons _ _ => cases e
    · cases ds with
      | nil => rfl
      | cons _ _ => cases e
  | n + 1, t :: ts => by
    obtain ⟨j1, j2⟩ := g_asgT Gd up n t
    obtain ⟨i1, i2, i3⟩ := g_asgTs Gd up n ts
    have step : ∀ {ds : List D} {σ : Env1} {S : Sto} {r : Env1}, asgTs C sc S (n + 1) (t :: ts) ds σ = some r → ∃ d dr σ1, ds = d :: dr ∧ asgT C sc S n t d σ = some σ1 ∧ asgTs C sc S n ts dr σ1 = some r := fun {ds σ S r} e => by
      cases ds with
      | nil => cases e
      | cons d dr =>
        obtain ⟨σ1, e1, e⟩ := opt_some (show opt (asgT C sc S n t d σ) (fun σ1 => asgTs C sc S n ts dr σ1) = some r from e)
        exact ⟨d, dr, σ1, rfl, e1, e⟩
    have st : (∃ ds σ S r, asgTs C sc S (n + 1) (t :: ts) ds σ = some r) → ∀ x p, .Starred x p ∉ t :: ts := fun ⟨ds, σ, S, r, e⟩ x p hm => by
      obtain ⟨d, dr, σ1, rfl, e1, e2⟩ := step e
      rcases List.mem_cons.mp hm with z | z
      · exact j2 ⟨_, _, _, _, e1⟩ x p z.symm
      · exact i2 ⟨_, _, _, _, e2⟩ x p z
    refine ⟨?_, st, fun ds σ S r e => ?_⟩
    · by_cases hs : ∀ x p, t ≠ .Starred x p
      · refine PGs.imp (pgs_cons j1 i1 (by rw [each_star hs] <;> rfl)) fun vs σ H Q h => ?_
        obtain ⟨ρ, σd, S, ds, σd1, M, hv, e, q⟩ := h
        obtain ⟨d, dr, σ1, rfl, e1, e2⟩ := step e
        obtain ⟨v, vr, rfl, h1, h2⟩ := hv
        exact ⟨v, vr, rfl, ρ, σd, S, d, σ1, M, h1, e1, fun σ' M' c' k' => ⟨ρ, σ1, S, dr, σd1, M', h2.mono (Pre.refl _) (Le.refl _) c', e2, fun σ'' M'' c'' k'' => q σ'' M'' (fun a b z => c'' _ _ (c' _ _ z)) (k'.trans k'')⟩⟩
      · refine PGs.imp never_gs fun vs σ H Q h => ?_
        obtain ⟨ρ, σd, S, ds, σd1, M, hv, e, q⟩ := h
        obtain ⟨d, dr, σ1, rfl, e1, e2⟩ := step e
        exact hs (j2 ⟨_, _, _, _, e1⟩)
    · obtain ⟨d, dr, σ1, rfl, e1, e2⟩ := step e
      rw [List.length_cons, List.length_cons, i3 _ _ _ _ e2]
end
/-- a target, its item perhaps a new pair -/
theorem g_asgW (Gd : Good g C X bk sc cl k) (up : ClUp C sc cl) (tg : Expr) : PG X tg (tGw g C sc cl (tgNs tg) (isTupE tg) fun d σ S => asgT C sc S 20 tg d σ) := by
  cases ht : isTupE tg with
  | false =>
    refine PG.imp (g_asgT Gd up 20 tg).1 fun v σ H Q q => ?_
    obtain ⟨ρ, σd, S, d, σd1, M, hv, e, q⟩ := q
    exact ⟨ρ, σd, S, d, σd1, M, hv.elim id (fun z => nomatch z.1), e, q⟩
  | true =>
    obtain ⟨ts, j, p, rfl⟩ : ∃ ts j p, tg = .Tuple ts j p := by
      cases tg <;> first | exact ⟨_, _, _, rfl⟩ | cases ht
    obtain ⟨i1, i2, i3⟩ := g_asgTs Gd up 19 ts
    exact g_tup Gd i1 i2 i3
end
end K76
end

/-! text Src -/
section
namespace K76
open PySem PySem.Spec PyProof.Rows L2
section
variable {g : G}
/-! no lambda: cells do not matter -/
mutual
theorem DV.noLam {ρ : List Addr} {H : Hp} {c1 c2 : Cl} : ∀ (d : D) {v : V}, K76.noLam d = true → DV g ρ H c1 d v → DV g ρ H c2 d v
  | .non, _, _, h => h
  | .bl _, _, _, h => h
  | .int _, _, _, h => h
  | .str _, _, _, h => h
  | .ty _, _, _, h => h
  | .glo _, _, _, h => h
  | .loc _, _, _, h => h
  | .lam _ _, _, e, _ => by cases e
  | .tup ds, _, e, ⟨a, vs, h1, h2, h3⟩ => ⟨a, vs, h1, h2, DVs.noLam ds e h3⟩
theorem DVs.noLam {ρ : List Addr} {H : Hp} {c1 c2 : Cl} : ∀ (ds : List D) {vs : List V}, noLams ds = true → DVs g ρ H c1 ds vs → DVs g ρ H c2 ds vs
  | [], _, _, h => h
  | d :: r, _, e, ⟨v, q, h1, h2, h3⟩ => by
    have e : (match K76.noLam d with | true => noLams r | false => false) = true := e
    cases hd : K76.noLam d with
    | false =>
      rw [hd] at e
      cases e
    | true =>
      rw [hd] at e
      exact ⟨v, q, h1, DV.noLam d hd h2, DVs.noLam r e h3⟩
end
end
section
variable {g : G} {C : Cx1} {X : Cx} {bk : Bool} {sc : Scope} {cl : ClF} {k : Nat} {ih : Ih}
theorem PI.imp {tg e : Expr} {a b : TI} (h : PI X tg e a) (i : ∀ σ H R, b σ H R → a σ H R) : PI X tg e b := ⟨fun pins s σ H R I q => h.run pins s σ H R I (i _ _ _ q)⟩
theorem PI.or {tg e : Expr} {a b : TI} (h : PI X tg e a) (h' : PI X tg e b) : PI X tg e fun σ H R => a σ H R ∨ b σ H R := ⟨fun pins s σ H R I q => q.elim (h.run pins s σ H R I) (h'.run pins s σ H R I)⟩
theorem never_i {tg e : Expr} : PI X tg e fun _ _ _ => False := ⟨fun _ _ _ _ _ _ h => h.elim⟩
/-- the iterator J follows the source -/
def SrcGo (g : G) (J : It) (src : Src) (ρ0 : List Addr) (H0 : Hp) (φ : Cl → Prop) : Prop := ∀ (cl : Cl) (ρ : List Addr) (S : Sto) (H : Hp) (σd : Env1) (σ : L2.St) (i : Nat) (o : Option D), Pre ρ0 ρ → Le H0 H → φ cl → Sim g cl ρ S H σd σ → src.at S i = some o →
  (o = none → J.stop i H) ∧ ∀ d, o = some d → J.go i H ∧ ∀ x H', J.yld i H x H' → Le H H' ∧ Sim g cl ρ S H' σd σ ∧ (DV g ρ H' cl d x ∨ (src.weak = true ∧ DW g ρ H' cl d x))
structure SrcOk (g : G) (J : It) (src : Src) (ρ0 : List Addr) (H0 : Hp) (cl0 : Cl) : Prop where
  ex : ∃ φ : Cl → Prop, φ cl0 ∧ (∀ c c', ClLe c c' → φ c → φ c') ∧ (noLamSrc src = true → ∀ c c', φ c → φ c') ∧ SrcGo g J src ρ0 H0 φ
theorem SrcOk.any {J : It} {src : Src} {ρ0 : List Addr} {H0 : Hp} {cl0 : Cl} (h : SrcGo g J src ρ0 H0 fun _ => True) : SrcOk g J src ρ0 H0 cl0 := ⟨⟨fun _ => True, trivial, fun _ _ _ _ => trivial, fun _ _ _ _ => trivial, h⟩⟩
theorem SrcOk.mono {J : It} {src : Src} {ρ0 : List Addr} {H0 : Hp} {c c' : Cl} (h : SrcOk g J src ρ0 H0 c) (hc : ClLe c c') : SrcOk g J src ρ0 H0 c' := by
  obtain ⟨φ, h1, h2, h3, h4⟩ := h.ex
  exact ⟨⟨φ, h2 _ _ hc h1, h2, h3, h4⟩⟩
theorem SrcOk.noLam {J : It} {src : Src} {ρ0 : List Addr} {H0 : Hp} {c c' : Cl} (h : SrcOk g J src ρ0 H0 c) (hn : noLamSrc src = true) : SrcOk g J src ρ0 H0 c' := by
  obtain ⟨φ, h1, h2, h3, h4⟩ := h.ex
  exact ⟨⟨φ, h3 hn _ _ h1, h2, h3, h4⟩⟩
theorem SrcOk.at {J : It} {src : Src} {ρ0 : List Addr} {H0 : Hp} {cl : Cl} (h : SrcOk g J src ρ0 H0 cl) {ρ : List Addr} {S : Sto} {H : Hp} {σd : Env1} {σ : L2.St} {i : Nat} {o : Option D} (hp : Pre ρ0 ρ) (hl : Le H0 H) (M : Sim g cl ρ S H σd σ) (e : src.at S i = some o) :
    (o = none → J.stop i H) ∧ ∀ d, o = some d → J.go i H ∧ ∀ x H', J.yld i H x H' → Le H H' ∧ Sim g cl ρ S H' σd σ ∧ (DV g ρ H' cl d x ∨ (src.weak = true ∧ DW g ρ H' cl d x)) := by
  obtain ⟨φ, h1, h2, h3, h4⟩ := h.ex
  exact h4 cl ρ S H σd σ i o hp hl h1 M e
def tI (g : G) (cl : ClF) (f : Env1 → Sto → Option (Src × Sto)) : TI := fun σ H R => ∃ ρ σd S src S1, Sim g (cl σd σ) ρ S H σd σ ∧ f σd S = some (src, S1) ∧
  ∀ ρ' H' J, Pre ρ ρ' → Le H H' → Sim g (cl σd σ) ρ' S1 H' σd σ → SrcOk g J src ρ' H' (cl σd σ) → R J H'
variable {ρ0 : List Addr} {H0 : Hp} {cl0 : Cl}
theorem src_tup {ds : List D} {a : Addr} {vs : List V} (h : SqT g.K H0 a vs) (hd : DVs g ρ0 H0 cl0 ds vs) : SrcOk g (Itt g.K a) (.tup ds) ρ0 H0 cl0 := by
  refine ⟨⟨fun c => DVs g ρ0 H0 c ds vs, hd, fun _ _ hc z => z.mono (Pre.refl _) (Le.refl _) hc, fun hn _ _ z => DVs.noLam ds hn z, ?_⟩⟩
  intro cl ρ S H σd σ i o hp hl hd M e
  have h' := hl.sqT h
  have hd' := hd.mono hp hl (fun _ _ z => z)
  have e : nth ds i = o := Option.some.inj e
  rw [nth_eq] at e
  refine ⟨fun z => ⟨vs, h', ?_⟩, fun d z => ?_⟩
  · rw [z] at e
    rw [← hd.length]
    exact List.getElem?_eq_none_iff.mp e
  · rw [z] at e
    obtain ⟨v, e1, e2⟩ := hd'.get e
    refine ⟨⟨vs, v, h', e1⟩, fun x H' y => ?_⟩
    obtain ⟨rfl, y⟩ := y
    have := y vs h'
    rw [e1] at this
    cases this
    exact ⟨Le.refl _, M, .inl e2⟩
theorem src_lst {n : Nat} {a : Addr} (ha : ρ0[n]? = some a) : SrcOk g (Itl g.K a) (.lst n) ρ0 H0 cl0 := by
  refine SrcOk.any ?_
  intro cl ρ S H σd σ i o hp hl hc M e
  obtain ⟨ds, e1, e⟩ := opt_some (show opt (asL S (.loc n)) (fun ds => some (nth ds i)) = some o from e)
  have e : nth ds i = o := Option.some.inj e
  rw [nth_eq] at e
  obtain ⟨b, vs, h1, h2, h3⟩ := M.lstAt e1
  rw [hp.get ha] at h1
  cases h1
  refine ⟨fun z => ⟨vs, SqL.of h2, ?_⟩, fun d z => ?_⟩
  · rw [z] at e
    rw [← h3.length]
    exact List.getElem?_eq_none_iff.mp e
  · rw [z] at e
    obtain ⟨v, e1, e2⟩ := h3.get e
    refine ⟨⟨vs, v, SqL.of h2, e1⟩, fun x H' y => ?_⟩
    obtain ⟨rfl, y⟩ := y
    have := y vs (SqL.of h2)
    rw [e1] at this
    cases this
    exact ⟨Le.refl _, M, .inl e2⟩
theorem src_str {s : Str} : SrcOk g (Its s) (.str s) ρ0 H0 cl0 := by
  refine SrcOk.any ?_
  intro cl ρ S H σd σ i o hp hl hc M e
  have e : (match nth s.cps.toList i with | some c => some (D.str ⟨#[c]⟩) | none => none) = o := Option.some.inj e
  rw [nth_eq] at e
  refine ⟨fun z => ?_, fun d z => ?_⟩
  · rw [z] at e
    cases h : s.cps.toList[i]? with
    | none =>
      have := List.getElem?_eq_none_iff.mp h
      show s.cps.size ≤ i
      simpa using this
    | some c =>
      rw [h] at e
      cases e
  · rw [z] at e
    cases h : s.cps.toList[i]? with
    | none =>
      rw [h] at e
      cases e
    | some c =>
      rw [h] at e
      cases e
      have hi := (List.getElem?_eq_some_iff.mp h).1
      refine ⟨by show i < s.cps.size; simpa using hi, fun x H' y => ?_⟩
      obtain ⟨rfl, c', h1, rfl⟩ := y
      have : c' = c := by
        have h2 : s.cps.toList[i]? = some c' := by simpa using h1
        rw [h] at h2
        exact (Option.some.inj h2).symm
      subst this
      exact ⟨Le.refl _, M, .inl rfl⟩
theorem src_rng {a : Int} {n : Nat} : SrcOk g (Itr a n) (.rng a n) ρ0 H0 cl0 := by
  refine SrcOk.any ?_
  intro cl ρ S H σd σ i o hp hl hc M e
  have e : (match Nat.blt i n with | true => some (D.int (a + i)) | false => none) = o := Option.some.inj e
  cases h : Nat.blt i n with
  | true =>
    rw [h] at e
    subst e
    have hi : i < n := Nat.lt_of_succ_le (Nat.le_of_ble_eq_true h)
    refine ⟨fun z => (by cases z), fun d z => ?_⟩
    cases z
    refine ⟨hi, fun x H' y => ?_⟩
    obtain ⟨rfl, rfl⟩ := y
    exact ⟨Le.refl _, M, .inl rfl⟩
  | false =>
    rw [h] at e
    subst e
    refine ⟨fun _ => ?_, fun d z => (by cases z)⟩
    show n ≤ i
    by_cases q : i < n
    · have : Nat.blt i n = true := Nat.ble_eq_true_of_le q
      rw [h] at this
      cases this
    · omega
theorem src_zip {as bs : List D} {a b : Addr} {xs ys : List V} (h1 : SqT g.K H0 a xs) (h2 : SqT g.K H0 b ys) (d1 : DVs g ρ0 H0 cl0 as xs) (d2 : DVs g ρ0 H0 cl0 bs ys) : SrcOk g (RZ.ItzT g.K a b) (.zip as bs) ρ0 H0 cl0 := by
  refine ⟨⟨fun c => DVs g ρ0 H0 c as xs ∧ DVs g ρ0 H0 c bs ys, ⟨d1, d2⟩, fun _ _ hc z => ⟨z.1.mono (Pre.refl _) (Le.refl _) hc, z.2.mono (Pre.refl _) (Le.refl _) hc⟩, fun hn _ _ z => ⟨DVs.noLam as (Bool.and_eq_true_iff.mp hn).1 z.1, DVs.noLam bs (Bool.and_eq_true_iff.mp hn).2 z.2⟩, ?_⟩⟩
  intro cl ρ S H σd σ i o hp hl ⟨d1, d2⟩ M e
  have h1' := hl.sqT h1
  have h2' := hl.sqT h2
  have d1' := d1.mono hp hl (fun _ _ z => z)
  have d2' := d2.mono hp hl (fun _ _ z => z)
  have e : (match nth as i with | some x => (match nth bs i with | some y => some (D.tup [x, y]) | none => none) | none => none) = o := Option.some.inj e
  rw [nth_eq, nth_eq] at e
  refine ⟨fun z => ⟨xs, ys, h1', h2', ?_⟩, fun d z => ?_⟩
  · rw [z] at e
    cases ea : as[i]? with
    | none =>
      rw [← d1.length]
      exact .inl (List.getElem?_eq_none_iff.mp ea)
    | some x =>
      cases eb : bs[i]? with
      | none =>
        rw [← d2.length]
        exact .inr (List.getElem?_eq_none_iff.mp eb)
      | some y =>
        rw [ea, eb] at e
        cases e
  · rw [z] at e
    cases ea : as[i]? with
    | none =>
      rw [ea] at e
      cases e
    | some x =>
      cases eb : bs[i]? with
      | none =>
        rw [ea, eb] at e
        cases e
      | some y =>
        rw [ea, eb] at e
        cases e
        obtain ⟨v, v1, v2⟩ := d1'.get ea
        obtain ⟨u, u1, u2⟩ := d2'.get eb
        refine ⟨⟨xs, ys, v, u, h1', h2', v1, u1⟩, fun w H' q => ?_⟩
        obtain ⟨T, x', y', rfl, hT, rfl, f1, f2⟩ := q
        have g1 : v = x' := Option.some.inj (v1.symm.trans (f1 xs h1'))
        have g2 : u = y' := Option.some.inj (u1.symm.trans (f2 ys h2'))
        rw [← g1, ← g2]
        have fx := v2.mono (Pre.refl _) (le_new (o := .tup [v, u]) hT) (fun _ _ z => z)
        have fy := u2.mono (Pre.refl _) (le_new (o := .tup [v, u]) hT) (fun _ _ z => z)
        exact ⟨le_new hT, M.new hT, .inr ⟨rfl, _, T, [v, u], rfl, rfl, SqT.of upd_same, v, [u], rfl, fx, u, [], rfl, fy, rfl⟩⟩
theorem src_enL {n : Nat} {a : Addr} (ha : ρ0[n]? = some a) : SrcOk g (Ite g.K a) (.enL n) ρ0 H0 cl0 := by
  refine SrcOk.any ?_
  intro cl ρ S H σd σ i o hp hl hc M e
  obtain ⟨ds, e1, e⟩ := opt_some (show opt (asL S (.loc n)) (fun ds => some (match nth ds i with | some x => some (D.tup [.int i, x]) | none => none)) = some o from e)
  have e : (match nth ds i with | some x => some (D.tup [.int i, x]) | none => none) = o := Option.some.inj e
  rw [nth_eq] at e
  obtain ⟨b, vs, h1, h2, h3⟩ := M.lstAt e1
  rw [hp.get ha] at h1
  cases h1
  refine ⟨fun z => ⟨vs, SqL.of h2, ?_⟩, fun d z => ?_⟩
  · rw [z] at e
    cases ea : ds[i]? with
    | none =>
      rw [← h3.length]
      exact List.getElem?_eq_none_iff.mp ea
    | some x =>
      rw [ea] at e
      cases e
  · rw [z] at e
    cases ea : ds[i]? with
    | none =>
      rw [ea] at e
      cases e
    | some x =>
      rw [ea] at e
      cases e
      obtain ⟨v, v1, v2⟩ := h3.get ea
      refine ⟨⟨vs, v, SqL.of h2, v1⟩, fun w H' q => ?_⟩
      obtain ⟨T, x', rfl, hT, rfl, f1⟩ := q
      have g1 : v = x' := Option.some.inj (v1.symm.trans (f1 vs (SqL.of h2)))
      rw [← g1]
      have fx := v2.mono (Pre.refl _) (le_new (o := .tup [.int (i : Nat), v]) hT) (fun _ _ z => z)
      exact ⟨le_new hT, M.new hT, .inr ⟨rfl, _, T, _, rfl, rfl, SqT.of upd_same, _, _, rfl, rfl, v, [], rfl, fx, rfl⟩⟩
/-! the walked expression -/
theorem star1 {a : Expr} {env : Env} (h : ∀ x p, a ≠ .Starred x p) : starEach [a] env = [(false, eval a env)] := star_cons h
theorem i62_bd {i : Int} (h : i62 i = true) : -(2 ^ 62) ≤ i ∧ i < 2 ^ 62 := by
  have := i62_lt h
  omega
def rngOf (ds : List D) (S1 : Sto) : Option (Src × Sto) := match ds with
  | [d] => opt (asI d) fun n => grd (i62 n) (some (.rng 0 n.toNat, S1))
  | [d, d'] => opt (asI d) fun a => opt (asI d') fun b => grd (i62 a && i62 b) (some (.rng a (b - a).toNat, S1))
  | _ => none
theorem evs_len : ∀ {es : List Expr} {σ : Env1} {S : Sto} {ds : List D} {S1 : Sto}, evs ih bk sc es σ S = some (ds, S1) → ds.length = es.length
  | [], _, _, _, _, e => by
    cases e
    rfl
  | e :: r, σ, S, ds, S1, h => by
    obtain ⟨d, Sa, e1, e0⟩ := bnd_some (show bnd (ih.e bk sc e σ S) (fun d S1 => bnd (evs ih bk sc r σ S1) fun ds S2 => some (d :: ds, S2)) = some (ds, S1) from h)
    obtain ⟨xs, Sb, e2, e0⟩ := bnd_some e0
    cases e0
    rw [List.length_cons, List.length_cons, evs_len e2]
theorem i_rng (Gd : Good g C X bk sc cl k) (F : Facts g C.P) (hst : ∀ x p, ih.e bk sc (.Starred x p) = fun _ _ => none) (I : IhE g X bk sc cl ih) {tg : Expr} {as : List Expr} {p pos : Pos} (hg : isGlo sc "range" = true) :
    PI X tg (.Call (.Name "range" p) as [] pos) (tI g cl fun σ S => bnd (evs ih bk sc as σ S) fun ds S1 => rngOf ds S1) := by
  have gl : Gl X "range" := Gd.scr.glo _ hg
  have mg : X.mg "range" = none := by rw [Gd.mg]; exact F.rng
  obtain ⟨pa, ps⟩ := a_evs I hst as
  by_cases hs : ∀ x q, .Starred x q ∉ as
  · match as, pa, ps, hs with
    | [], _, _, _ =>
      refine PI.imp never_i fun σ H R h => ?_
      obtain ⟨ρ, σd, S, src, S1, M, e, q⟩ := h
      obtain ⟨d, Sa, e1, e⟩ := bnd_some e
      cases e1
      cases e
    | [a], pa, _, hs =>
      refine PI.imp (pi_range1 gl mg pa (star1 fun x q z => hs x q (by rw [z]; simp))) fun σ H R h => ?_
      obtain ⟨ρ, σd, S, src, S1, M, e, q⟩ := h
      obtain ⟨ds, Sa, e1, e⟩ := bnd_some e
      have hl := evs_len e1
      match ds, hl with
      | [d], _ =>
        obtain ⟨n, e2, e⟩ := opt_some (show opt (asI d) (fun n => grd (i62 n) (some (Src.rng 0 n.toNat, Sa))) = some (src, S1) from e)
        obtain ⟨e3, e⟩ := grd_some e
        cases e
        refine ⟨ρ, σd, S, [d], _, M, e1, fun ρ1 H1 vs p1 l1 M1 d1 => ?_⟩
        obtain ⟨v, r, rfl, h1, h2⟩ := d1
        have h2 : r = [] := h2
        subst h2
        have b := i62_bd e3
        exact ⟨n, by rw [h1.int e2], b.1, b.2, q ρ1 H1 _ p1 l1 M1 src_rng⟩
    | [a, a'], pa, _, hs =>
      refine PI.imp (pi_range2 gl mg pa (by rw [star_cons fun x q z => hs x q (by rw [z]; simp), star1 fun x q z => hs x q (by rw [z]; simp)]) (star1 fun x q z => hs x q (by rw [z]; simp))) fun σ H R h => ?_
      obtain ⟨ρ, σd, S, src, S1, M, e, q⟩ := h
      obtain ⟨ds, Sa, e1, e⟩ := bnd_some e
      have hl := evs_len e1
      match ds, hl with
      | [d, d'], _ =>
        obtain ⟨n, e2, e⟩ := opt_some (show opt (asI d) (fun a => opt (asI d') fun b => grd (i62 a && i62 b) (some (Src.rng a (b - a).toNat, Sa))) = some (src, S1) from e)
        obtain ⟨m, e4, e⟩ := opt_some e
        obtain ⟨e3, e⟩ := grd_some e
        cases e
        obtain ⟨e3, e5⟩ := Bool.and_eq_true_iff.mp e3
        refine ⟨ρ, σd, S, [d, d'], _, M, e1, fun ρ1 H1 vs p1 l1 M1 d1 => ?_⟩
        obtain ⟨v, r, rfl, h1, v', r', rfl, h2, h3⟩ := d1
        have h3 : r' = [] := h3
        subst h3
        have b := i62_bd e3
        have b' := i62_bd e5
        exact ⟨n, m, by rw [h1.int e2, h2.int e4], ⟨b.1, b.2, b'.1, b'.2⟩, q ρ1 H1 _ p1 l1 M1 src_rng⟩
    | _ :: _ :: _ :: _, _, _, _ =>
      refine PI.imp never_i fun σ H R h => ?_
      obtain ⟨ρ, σd, S, src, S1, M, e, q⟩ := h
      obtain ⟨ds, Sa, e1, e⟩ := bnd_some e
      have hl := evs_len e1
      match ds, hl with
      | _ :: _ :: _ :: _, _ => cases e
  · refine PI.imp never_i fun σ H R h => ?_
    obtain ⟨ρ, σd, S, src, S1, M, e, q⟩ := h
    obtain ⟨ds, Sa, e1, e⟩ := bnd_some e
    exact hs (ps _ _ _ e1)
def zipOf (ds : List D) (S1 : Sto) : Option (Src × Sto) := match ds with
  | [d, d'] => opt (asT d) fun a => opt (asT d') fun b => some (.zip a b, S1)
  | _ => none
theorem i_zip (Gd : Good g C X bk sc cl k) (F : Facts g C.P) (hst : ∀ x p, ih.e bk sc (.Starred x p) = fun _ _ => none) (I : IhE g X bk sc cl ih) {tg : Expr} {as : List Expr} {p pos : Pos} (hg : isGlo sc "zip" = true) :
    PI X tg (.Call (.Name "zip" p) as [] pos) (tI g cl fun σ S => grd (isTupE tg) (bnd (evs ih bk sc as σ S) fun ds S1 => zipOf ds S1)) := by
  have gl : Gl X "zip" := Gd.scr.glo _ hg
  have mg : X.mg "zip" = none := by rw [Gd.mg]; exact F.zip
  obtain ⟨pa, ps⟩ := a_evs I hst as
  have never : (∀ σ S r, (grd (isTupE tg) (bnd (evs ih bk sc as σ S) fun ds S1 => zipOf ds S1)) = some r → False) → PI X tg (.Call (.Name "zip" p) as [] pos) (tI g cl fun σ S => grd (isTupE tg) (bnd (evs ih bk sc as σ S) fun ds S1 => zipOf ds S1)) := fun hn => PI.imp never_i fun σ H R h => by
    obtain ⟨ρ, σd, S, src, S1, M, e, q⟩ := h
    exact hn _ _ _ e
  cases ht : isTupE tg with
  | false =>
    rw [ht] at never
    exact never fun _ _ _ e => by cases e
  | true =>
    rw [ht] at never
    obtain ⟨elts, kk, tp, rfl⟩ : ∃ elts kk tp, tg = .Tuple elts kk tp := by
      cases tg <;> first | exact ⟨_, _, _, rfl⟩ | cases ht
    by_cases hs : ∀ x q, .Starred x q ∉ as
    · match as, pa, ps, hs, never with
      | [a, a'], pa, _, hs, _ =>
        have s2 : starEach [a'] X.env = [(false, eval a' X.env)] := star1 fun x q z => hs x q (by rw [z]; simp)
        refine PI.imp (RZ.pi_zipA gl mg pa (star_cons fun x q z => hs x q (by rw [z]; simp)) (by rw [s2]; rfl)) fun σ H R h => ?_
        obtain ⟨ρ, σd, S, src, S1, M, e, q⟩ := h
        obtain ⟨_, e⟩ := grd_some e
        obtain ⟨ds, Sa, e1, e⟩ := bnd_some e
        have hl := evs_len e1
        match ds, hl with
        | [d, d'], _ =>
          obtain ⟨l, e2, e⟩ := opt_some (show opt (asT d) (fun a => opt (asT d') fun b => some (Src.zip a b, Sa)) = some (src, S1) from e)
          obtain ⟨l', e3, e⟩ := opt_some e
          cases e
          refine ⟨ρ, σd, S, [d, d'], _, M, e1, fun ρ1 H1 vs p1 l1 M1 d1 => ?_⟩
          obtain ⟨v, r, rfl, h1, v', r', rfl, h2, h3⟩ := d1
          have h3 : r' = [] := h3
          subst h3
          obtain ⟨b, xs, rfl, q1, q2⟩ := h1.tup e2
          obtain ⟨b', xs', rfl, q1', q2'⟩ := h2.tup e3
          have z1 := q1
          have z2 := q1'
          rw [← Gd.K] at q1 q1'
          refine ⟨b, b', xs, xs', rfl, .inr ⟨q1.sq, q1'.sq, ?_⟩⟩
          rw [Gd.K]
          exact q ρ1 H1 _ p1 l1 M1 (src_zip z1.sq z2.sq q2 q2')
      | [], _, _, _, never =>
        refine never fun σ S r e => ?_
        obtain ⟨_, e⟩ := grd_some e
        obtain ⟨ds, Sa, e1, e⟩ := bnd_some e
        cases e1
        cases e
      | [_], _, _, _, never =>
        refine never fun σ S r e => ?_
        obtain ⟨_, e⟩ := grd_some e
        obtain ⟨ds, Sa, e1, e⟩ := bnd_some e
        have hl := evs_len e1
        match ds, hl with
        | [_], _ => cases e
      | _ :: _ :: _ :: _, _, _, _, never =>
        refine never fun σ S r e => ?_
        obtain ⟨_, e⟩ := grd_some e
        obtain ⟨ds, Sa, e1, e⟩ := bnd_some e
        have hl := evs_len e1
        match ds, hl with
        | _ :: _ :: _ :: _, _ => cases e
    · refine never fun σ S r e => ?_
      obtain ⟨_, e⟩ := grd_some e
      obtain ⟨ds, Sa, e1, e⟩ := bnd_some e
      exact hs (ps _ _ _ e1)
end
end K76
end

/-! text Key -/
section
namespace K76
open PySem PySem.Spec PyProof.Rows L2
/-- the keys of a locked dict whose keys are tuples -/
def ItN (d : Addr) (o : Obj) (u : HO) (ks : List Addr) : It :=
  ⟨fun i H => i < ks.length ∧ H d = some (.frz o u), fun i H x H' => H' = H ∧ ∃ a, ks[i]? = some a ∧ x = .ref a, fun i H => ks.length ≤ i ∧ H d = some (.frz o u)⟩
section
variable {P : Program} {w : World} {K : PySem.W.Frag} {tg : Expr}
theorem frz_at {X : Cx} {pins : List (Addr × Obj)} {σ : L2.St} {H : Hp} {s : Shared} {d : Addr} {o : Obj} {u : HO} (I : Inv X pins σ H s) (h : H d = some (.frz o u)) : s.heap.get? d = some o := (I.hok d _ h).1
theorem turn_keysN {d : Addr} {o : Obj} {u : HO} {ks : List Addr} {es : Array DictEntry} {ep : Nat} (it : Addr) (hd : o.data = .dict es ep) (hk : es.toList.map (·.key) = ks.map Value.ref) : Turn P w K tg (ItN d o u ks) [it] it (fun i h => h.IsKeyIter it d i ks.length ep) := by
  have hsz : es.size = ks.length := by
    have := congrArg List.length hk
    simpa using this
  refine ⟨by simp, fun i h st b hb => ?_, fun i h h' st kp => ?_, ?_, ?_, ?_⟩
  · have eb : b = it := by simpa using hb
    rw [eb]
    obtain ⟨oi, e1, e2, e3⟩ := st
    exact ⟨oi, e1, fun v z => by rw [e3] at z; cases z⟩
  · obtain ⟨oi, e1, e2, e3⟩ := st
    exact ⟨oi, kp it (by simp) oi e1, e2, e3⟩
  · intro X hP hw hK hc i pins s σ H E I hf st hg
    subst hP hw hK
    obtain ⟨hi, hH⟩ := hg
    have fr := hf it (by simp)
    obtain ⟨en, hen⟩ : ∃ en, es[i]? = some en := ⟨es[i], Array.getElem?_eq_getElem (by rw [hsz]; exact hi)⟩
    have hka : ks[i]? = some ks[i] := List.getElem?_eq_getElem hi
    have hkey : en.key = .ref ks[i] := by
      have h1 : (es.toList.map (·.key))[i]? = some en.key := by
        rw [List.getElem?_map, Array.getElem?_toList, hen]
        rfl
      rw [hk, List.getElem?_map, hka] at h1
      exact (Option.some.inj h1).symm
    refine next_key_item st (frz_at I hH) hd hsz hen fun h' st' sb => ⟨en.key, rfl, ?_⟩
    have J : Inv X pins σ H { s with heap := h' } := I.turned (t' := s.toks) (fun b ob hb e => (sb.2 b hb).trans e) fr.1 fr.2.1 fr.2.2.2.1 fr.2.2.2.2.1 fr.2.2.2.2.2
    obtain ⟨oi, e1, e2, e3⟩ := id st'
    exact go_of (s := { s with heap := h' }) e1 e2 e3 (by decide) ⟨.ref ks[i], H, J, hkey, ⟨rfl, _, hka, rfl⟩, st', fun b hb => (hf b hb).1⟩
  · intro X hP hw hK hc i pins s σ H E I hf st hg
    subst hP hw hK
    have fr := hf it (by simp)
    exact next_key_end (I.ok.hd hc) st (frz_at I hg.2) hd hsz hg.1 fun h' eb => ⟨rfl, I.turned (t' := s.toks) (fun b ob hb e => eb b ob hb e) fr.1 fr.2.1 fr.2.2.2.1 fr.2.2.2.2.1 fr.2.2.2.2.2⟩
  · intro A i s Q E st h
    exact wpAny_pyIter_keyiter st h
end
def iKeysN (te : TE) : TI := fun σ H R => te σ H fun x H1 => ∃ (d : Addr) (o : Obj) (es : Array DictEntry) (ep : Nat) (ks : List Addr), x = .ref d ∧ H1 d = some (DictO d o) ∧ (d == sysModules) = false ∧ o.ExactDict ∧ o.data = .dict es ep ∧
  es.toList.map (·.key) = ks.map Value.ref ∧ R (ItN d o (DictO d o) ks) (upd H1 d (.frz o (DictO d o)))
theorem pi_keysN {X : Cx} {tg e : Expr} {te : TE} (he : PE X e te) : PI X tg e (iKeysN te) := by
  refine ⟨fun pins s σ H R I h => ?_⟩
  refine thn (he.run pins s σ H _ I h) fun v s1 ⟨x, H1, I1, r1, d, o, es, ep, ks, ex, hd, hs, hx, hdt, hk, q⟩ => ?_
  subst ex
  obtain rfl : v = Value.ref d := r1
  have hod : s1.heap.get? d = some o := (I1.hok d _ hd).1
  obtain ⟨od, I2⟩ := I1.lock hd trivial
  have eo : od = o := by
    have h := (I2.hok d _ upd_same).1
    rw [hod] at h
    exact (Option.some.inj h).symm
  subst eo
  have hsz : es.size = ks.length := by
    have := congrArg List.length hk
    simpa using this
  exact iter_keys hs hod hx hdt (pi_one (tk := s1.toks) I2 _ (turn_keysN _ hdt hk) ⟨_, Heap.get?_push_size _ rfl, rfl, by rw [hsz] <;> rfl⟩ q)
section
variable {g : G} {C : Cx1} {X : Cx} {bk : Bool} {sc : Scope} {cl : ClF} {k : Nat} {ih : Ih}
/-- the keys as data -/
def keysOf (ds : List (NestedKey × Addr × Value)) : List Addr := ds.map fun x => x.2.1
theorem NvR.keyAt {ρ : List Addr} {H : Hp} {cl : Cl} : ∀ {kvs : List (D × D)} {xs : List (NestedKey × Addr × Value)} {i : Nat} {d : D}, NvR g ρ H cl kvs xs → (kvs.map (·.1))[i]? = some d → ∃ a, (keysOf xs)[i]? = some a ∧ DV g ρ H cl d (.ref a)
  | [], _, _, _, _, e => by simp at e
  | p :: r, _, i, d, h, e => by
    obtain ⟨nk, ka, u, v, q, rfl, h0, h1, h2, h3, h4, h5, h6⟩ := h
    cases i with
    | zero =>
      simp at e
      subst e
      exact ⟨ka, rfl, h3⟩
    | succ i =>
      obtain ⟨a, e1, e2⟩ := NvR.keyAt h6 (i := i) (d := d) (by simpa using e)
      exact ⟨a, by simpa [keysOf] using e1, e2⟩
theorem src_fix {kvs : List (D × D)} {xs : List (NestedKey × Addr × Value)} {ρ0 : List Addr} {H0 : Hp} {cl0 : Cl} {d : Addr} {o : Obj} {u : HO} (hH : H0 d = some (.frz o u)) (h : NvR g ρ0 H0 cl0 kvs xs) : SrcOk g (ItN d o u (keysOf xs)) (.fix (kvs.map (·.1))) ρ0 H0 cl0 := by
  have hlen : (keysOf xs).length = kvs.length := by
    unfold keysOf
    rw [List.length_map, h.length]
  refine ⟨⟨fun c => ∀ i d, (kvs.map (·.1))[i]? = some d → ∃ a, (keysOf xs)[i]? = some a ∧ DV g ρ0 H0 c d (.ref a), fun i d e => h.keyAt e, fun c c' hc z i d e => ?_, fun hn c c' z i d e => ?_, ?_⟩⟩
  · obtain ⟨a, e1, e2⟩ := z i d e
    exact ⟨a, e1, e2.mono (Pre.refl _) (Le.refl _) hc⟩
  · obtain ⟨a, e1, e2⟩ := z i d e
    have all : ∀ (l : List D) (i : Nat) (d : D), noLams l = true → l[i]? = some d → noLam d = true := by
      intro l
      induction l with
      | nil => intro i d _ e; simp at e
      | cons x r ihl =>
        intro i d hn e
        have hn : (match noLam x with | true => noLams r | false => false) = true := hn
        cases hx : noLam x with
        | false => rw [hx] at hn; cases hn
        | true =>
          rw [hx] at hn
          cases i with
          | zero => simp at e; rw [← e]; exact hx
          | succ i => exact ihl i d hn (by simpa using e)
    exact ⟨a, e1, DV.noLam d (all _ i d hn e) e2⟩
  · intro cl ρ S H σd σ i o' hp hl hφ M e
    have e : nth (kvs.map (·.1)) i = o' := Option.some.inj e
    rw [nth_eq] at e
    have hH' := hl.frzs _ _ _ hH
    refine ⟨fun z => ⟨?_, hH'⟩, fun dd z => ?_⟩
    · rw [z] at e
      rw [hlen]
      have := List.getElem?_eq_none_iff.mp e
      simpa using this
    · rw [z] at e
      obtain ⟨a, e1, e2⟩ := hφ i dd e
      refine ⟨⟨?_, hH'⟩, fun x H' y => ?_⟩
      · exact (List.getElem?_eq_some_iff.mp e1).1
      · obtain ⟨rfl, a', e3, rfl⟩ := y
        rw [e1] at e3
        cases e3
        exact ⟨Le.refl _, M, .inl (e2.mono hp hl fun _ _ z => z)⟩
/-! the walked expression -/
theorem i_val (Gd : Good g C X bk sc cl k) (I : IhE g X bk sc cl ih) {tg it : Expr} : PI X tg it (tI g cl fun σ S => bnd (ih.e bk sc it σ S) fun d S1 => srcOf S1 d) := by
  refine PI.imp (PI.or (pi_list (I.e it)) (PI.or (pi_tup (I.e it)) (PI.or (pi_str (I.e it)) (pi_keysN (I.e it))))) fun σ H R h => ?_
  obtain ⟨ρ, σd, S, src, S1, M, e, q⟩ := h
  obtain ⟨d, Sa, e1, e2⟩ := bnd_some e
  unfold srcOf at e2
  cases d with
  | tup ds =>
    cases e2
    refine .inr (.inl ⟨ρ, σd, S, _, _, M, e1, fun ρ1 H1 v p1 l1 M1 d1 => ?_⟩)
    obtain ⟨a, vs, rfl, h1, h2⟩ := d1
    rw [Gd.K]
    exact ⟨a, rfl, ⟨vs, h1.sq⟩, q ρ1 H1 _ p1 l1 M1 (src_tup h1.sq h2)⟩
  | str z =>
    cases e2
    refine .inr (.inr (.inl ⟨ρ, σd, S, _, _, M, e1, fun ρ1 H1 v p1 l1 M1 d1 => ?_⟩))
    exact ⟨z, d1, q ρ1 H1 _ p1 l1 M1 src_str⟩
  | loc n =>
    obtain ⟨o, e3, e2⟩ := opt_some e2
    rw [nth_eq] at e3
    cases o with
    | lst l =>
      cases e2
      refine .inl ⟨ρ, σd, S, _, _, M, e1, fun ρ1 H1 v p1 l1 M1 d1 => ?_⟩
      obtain ⟨a, h1, vs, h2, h3⟩ := M1.rel.addr e3
      obtain ⟨b, h4, rfl⟩ := d1
      rw [h1] at h4
      cases h4
      rw [Gd.K]
      exact ⟨a, rfl, ⟨vs, SqL.of h2⟩, q ρ1 H1 _ p1 l1 M1 (src_lst h1)⟩
    | dct kvs =>
      cases kvs with
      | nil => cases e2
      | cons p r =>
        obtain ⟨e4, e2⟩ := grd_some e2
        cases e2
        refine .inr (.inr (.inr ⟨ρ, σd, S, _, _, M, e1, fun ρ1 H1 v p1 l1 M1 d1 => ?_⟩))
        obtain ⟨a, h1, h2⟩ := M1.rel.addr e3
        obtain ⟨b, h4, rfl⟩ := d1
        rw [h1] at h4
        cases h4
        rcases h2 with ⟨h0, _⟩ | ⟨_, o, es, ep, xs, hH, hs, hl, hx, hdt, hes, hnd, hn⟩
        · have h0 : isKeyD p.1 = true := h0
          have e4 : isTupD p.1 = true := e4
          cases hp : p.1 <;> rw [hp] at h0 e4 <;> first | (cases h0; done) | (cases e4; done)
        · refine ⟨a, o, es, ep, keysOf xs, rfl, hH, hs, hx, hdt, ?_, ?_⟩
          · rw [hes, List.map_map]
            unfold keysOf
            rw [List.map_map]
            rfl
          · have lw : Le H1 (upd H1 a (.frz o (DictO a o))) := le_write hH trivial
            refine q ρ1 _ _ p1 (l1.trans lw) ?_ (src_fix upd_same (hn.mono (Pre.refl _) lw fun _ _ z => z))
            rw [setN_eq]
            exact M1.set h1 hH trivial ⟨o, _, es, ep, upd_same, hdt⟩
    | _ => cases e2
  | _ => cases e2
end
end K76
end

/-! text En -/
section
namespace K76
open PySem PySem.Spec PyProof.Rows L2
open Sem (wp)
set_option maxHeartbeats 1000000 in
theorem meets_enumB {v : Value} {o : Obj} {H : Heap → Prop} (B : Begins v o H) :
    Meets (Builtin.«enumerate.__new__» ⟨[.type "enumerate", v], []⟩) (fun _ R s => H s.heap ∧
      R (.ok (.ret (.ref (s.heap.push o).objs.size))) { s with heap := (s.heap.push o).push { cls := .type "enumerate", data := .fields #[.none, .bool false, .ref s.heap.objs.size, rawInt 0, .none, .none] } }) :=
  .of_wp fun prog w A R s h => by
    obtain ⟨hp, g, d, tk, os⟩ := s; obtain ⟨h1, h⟩ := h
    have hsub := sub_enumerate
    have q1 : ∀ {A' : Around} {E : Value → Shared → Prop} {Q : Value → Shared → Prop}, Q (.ref hp.objs.size) ⟨hp.push o, g, d, tk, os⟩ → wpAny (model prog w) A' (pyIter v) Q E ⟨hp, g, d, tk, os⟩ :=
      fun q => B.iter prog w _ _ ⟨hp, g, d, tk, os⟩ _ h1 q
    wp_walk using q1
    refine wpAny_stack_any fun st => wpAny_pure ?_
    split
    · rename_i c _ _ _ _ _
      cases (c == Value.type "enumerate")
      · wp_walk using q1
        exact ⟨_, rfl, h⟩
      · wp_walk using q1
        exact ⟨_, rfl, h⟩
    · wp_walk using q1
      exact ⟨_, rfl, h⟩
section
variable {prog : Program} {w : World} {A : Around} {E : Value → Shared → Prop} {s : Shared}
theorem call_enumB {v : Value} {o : Obj} {H : Heap → Prop} {Q : Value → Shared → Prop} (B : Begins v o H) (h1 : H s.heap)
    (h : ∀ h', IsEnum h' (s.heap.objs.size + 1) s.heap.objs.size 0 .none → h'.get? s.heap.objs.size = some o → h'.objs.size = s.heap.objs.size + 2 →
      (∀ b o, s.heap.get? b = some o → h'.get? b = some o) → Q (.ref (s.heap.objs.size + 1)) { s with heap := h' }) :
    wpAny (model prog w) A (call (.type "enumerate") [v]) Q E s := by
  refine callType_new F.called_enumerate (by decide) (F.typeCall_enumerate_1 _) (F.newCall_enumerate_1 _) (fun obj => F.args_object_init_2 obj _) F.entry_enumerate_new (meets_enumB B) ⟨h1, ?_⟩
  have hz : (s.heap.push o).objs.size = s.heap.objs.size + 1 := Heap.size_push ..
  show _ ∧ _
  rw [hz]
  have he : IsEnum ((s.heap.push o).push { cls := .type "enumerate", data := .fields #[.none, .bool false, .ref s.heap.objs.size, rawInt 0, .none, .none] }) (s.heap.objs.size + 1) s.heap.objs.size 0 .none := by
    have := Heap.get?_push_size (s.heap.push o) (o := { cls := .type "enumerate", data := .fields #[.none, .bool false, .ref s.heap.objs.size, rawInt 0, .none, .none] }) rfl
    rw [hz] at this; exact this
  exact ⟨⟨_, he, rfl⟩, h _ he (Heap.get?_push_of_some _ (Heap.get?_push_size _ B.free)) (by rw [Heap.size_push, hz]) fun b o x => Heap.get?_push_of_some _ (Heap.get?_push_of_some _ x)⟩
end
/-- the tuple at a, each item in a new pair -/
def IteT (K : PySem.W.Frag) (a : Addr) : It :=
  ⟨fun i H => ∃ (xs : List V) (x : V), SqT K H a xs ∧ xs[i]? = some x, fun i H v H' => ∃ T x, v = .ref T ∧ H T = none ∧ H' = upd H T (.tup [.int (i : Nat), x]) ∧ ∀ xs, SqT K H a xs → xs[i]? = some x, fun i H => ∃ xs : List V, SqT K H a xs ∧ xs.length ≤ i⟩
theorem turn_enumT {P : Program} {w : World} {K : PySem.W.Frag} {elts : List Expr} {kk : Nat} {tpos : Pos} (a e it : Addr) (h1 : e ≠ it) (h2 : e ≠ a) (h3 : a ≠ it) :
    Turn P w K (.Tuple elts kk tpos) (IteT K a) [e, it] e (fun i h => (∃ old, IsEnum h e it ((i : Nat) : Int) old) ∧ h.IsTupleIter it a i) where
  mem := by simp
  obj := fun i h st b hb => by
    obtain ⟨⟨old, he⟩, ⟨o, ho, hc, hd⟩⟩ := st
    have e' : b = e ∨ b = it := by simpa using hb
    rcases e' with z | z
    · rw [z]; exact ⟨_, he, fun v q => nomatch q⟩
    · rw [z]; exact ⟨o, ho, fun v q => by rw [hd] at q; cases q⟩
  keep := fun i h h' st k => let ⟨⟨old, he⟩, hi⟩ := st; ⟨⟨old, k e (by simp) _ he⟩, hi.at fun o q => k it (by simp) o q⟩
  item := by
    intro X hP hw hK hc i pins s σ H E I hf st hg
    subst hP hw hK
    obtain ⟨⟨old, he⟩, hit⟩ := st
    obtain ⟨xs, x, hq, hx⟩ := hg
    obtain ⟨its, rv, p, hz⟩ := I.tuple hq
    obtain ⟨u, hu, ru⟩ := rv.get hx
    have hel : e < s.heap.objs.size := Heap.lt_size he
    have hil : it < s.heap.objs.size := by obtain ⟨_, q, _⟩ := hit; exact Heap.lt_size q
    have hul : i < its.toArray.size := by
      have := (List.getElem?_eq_some_iff.mp hu).1
      simpa using this
    refine wpAny_pyNext_enum_itemD (Draws.tuple (A := X.A.in1) (I.ok.hd hc) it a h3 its.toArray) he ⟨hit, p⟩ hul h1 (by simp [h1, h2]) fun x' h' tk hP' ho hst hT hsz hk => ?_
    have ex : x' = u := by
      have h4 : its.toArray[i]? = some u := by simpa using hu
      have h5 : its.toArray[i]? = some x' := hP'
      rw [h4] at h5
      exact (Option.some.inj h5).symm
    subst ex
    obtain ⟨hit', _⟩ := hst
    refine ⟨_, rfl, wpAny_letOwnedTupleGo_enum (s := { s with heap := h', toks := tk + 1 }) ho fun h'' he' sb => ?_⟩
    have hT2 : h''.get? s.heap.objs.size = some { cls := .type "tuple", data := .seq #[.int i tk, x'] } := (sb.2 _ (Nat.ne_of_gt hel)).trans hT
    have new : ObjOk X.prog X.w (upd H s.heap.objs.size (.tup [.int (i : Nat), x])) h'' s.heap.objs.size (.tup [.int (i : Nat), x]) :=
      ⟨by show 2 ≤ sizeLine; decide, [.int i tk, x'], .cons ⟨_, rfl⟩ (.cons ru .nil), ⟨_, hT2, rfl, _, rfl⟩⟩
    have I1 : Inv X pins σ (upd H s.heap.objs.size (.tup [.int (i : Nat), x])) { s with heap := h'', toks := tk + 1 } :=
      I.turnedNew (ch := [e, it]) (fun b ob hb q => (sb.2 b (fun z => hb (by simp [z]))).trans (hk b ob (fun z => hb (by simp [z])) (fun z => hb (by simp [z])) q)) hf (Nat.le_refl _) new
    refine ⟨.ref s.heap.objs.size, _, I1, rfl, ⟨_, x, rfl, I.hok.fresh (Nat.le_refl _), rfl, fun ys hy => by rw [I.tuple_inj hy hq]; exact hx⟩, ⟨⟨x', ?_⟩, hit'.at fun o q => (sb.2 it (Ne.symm h1)).trans q⟩, fun b hb => ?_⟩
    · have e1 : ((i + 1 : Nat) : Int) = (i : Int) + 1 := by omega
      rw [e1]; exact he'
    · have hb' : b < s.heap.objs.size := by
        have e' : b = e ∨ b = it := by simpa using hb
        rcases e' with z | z
        · rw [z]; exact hel
        · rw [z]; exact hil
      rw [upd_ne (Nat.ne_of_lt hb')]
      exact (hf b hb).1
  done := by
    intro X hP hw hK hc i pins s σ H E I hf st hg
    subst hP hw hK
    obtain ⟨⟨old, he⟩, hit⟩ := st
    obtain ⟨xs, hq, hx⟩ := hg
    obtain ⟨its, rv, p, hz⟩ := I.tuple hq
    obtain ⟨f0, f1, f2, f3, f4, f5⟩ := hf it (by simp)
    have hl := rv.length
    unfold pyNext
    refine wpAny_bind (wpAny_attempt (wpAny_callSpecial?_slot (name := Str.ofString "__next__") (⟨_, he, rfl⟩ : s.TypeIs (.ref e) "enumerate") F.slot_enumerate_next (wpAny_call_entry F.slot_enumerate_next ⟨_, he, rfl⟩ F.entry_enumerate_next ?_ (F.args_enumerate_next_1 _))))
    show wpAny _ _ (field (.ref e) 2 >>= _) _ _ _
    refine wpAny_bind (wpAny_field he rfl (x := .ref it) rfl ?_)
    refine wpAny_bind (wpAny_nextOf_tuple_end (I.ok.hd hc) hit p (by simp; omega) fun h' x he' hx' => ?_)
    obtain ⟨o, ho, hc'⟩ := hx'
    refine wpAny_bind (wpAny_isInstance (T := "StopIteration") (b := true) ⟨o, ho, hc'⟩ isSubtype_stop ?_)
    exact wpAny_pure ⟨rfl, I.turned (t' := s.toks) (fun b ob hb e => he' b ob hb e) f0 f1 f3 f4 f5⟩
  self := fun A i s Q E st h => let ⟨⟨_, he⟩, _⟩ := st; wpAny_pyIter_enum he h
def iEnumT (K : PySem.W.Frag) (ta : TA) : TI := fun σ H R => ta σ H fun vs H1 => ∃ a xs, vs = [.ref a] ∧ SqT K H1 a xs ∧ R (IteT K a) H1
theorem pi_enumT {X : Cx} {e : Expr} {ta : TA} {p pos tpos : Pos} {elts : List Expr} {kk : Nat} (hg : Gl X "enumerate") (hm : X.mg "enumerate" = none) (ha : PA X [e] ta) (hs : starEach [e] X.env = [(false, eval e X.env)]) :
    PI X (.Tuple elts kk tpos) (.Call (.Name "enumerate" p) [e] [] pos) (iEnumT X.K ta) := by
  refine ⟨fun pins s σ H R I h => ?_⟩
  refine Call_ (ld_blt I hg hm boot_enumerate (PyProof.Rows.callWith_type1 (thn (ha.run pos pins s σ H _ I h) fun us s1 ⟨vs, H1, I1, r1, q1⟩ => ?_) hs rfl))
  obtain ⟨a, xs, ex, hq, q⟩ := q1
  subst ex
  cases r1 with
  | cons r rr =>
    cases rr
    cases r
    obtain ⟨its, rv, p', hz⟩ := I1.tuple hq
    refine call_enumB (begins_tuple _ its.toArray) p' fun h' he hit hsz hk => wpAny_pyIter_enum he ?_
    have I2 : Inv X pins σ H1 { s1 with heap := h' } := I1.kept (t' := s1.toks) hk
    have hal : a < s1.heap.objs.size := by obtain ⟨_, q, _⟩ := p'; exact Heap.lt_size q
    refine ⟨s1.heap.objs.size + 1, [s1.heap.objs.size + 1, s1.heap.objs.size], _, _, H1, rfl, I2, turn_enumT a (s1.heap.objs.size + 1) s1.heap.objs.size (Nat.succ_ne_self _) (Nat.ne_of_gt (Nat.lt_succ_of_lt hal)) (Nat.ne_of_lt hal), ⟨⟨.none, he⟩, ⟨_, hit, rfl, rfl⟩⟩, fun b hb => ?_, q⟩
    have e' : b = s1.heap.objs.size + 1 ∨ b = s1.heap.objs.size := by simpa using hb
    have hle : s1.heap.objs.size ≤ b := by
      rcases e' with z | z
      · rw [z]; exact Nat.le_add_right _ _
      · rw [z]; exact Nat.le_refl _
    exact I1.fpOk hle (I1.hok.fresh hle)
section
variable {g : G} {C : Cx1} {X : Cx} {bk : Bool} {sc : Scope} {cl : ClF} {k : Nat} {ih : Ih} {ρ0 : List Addr} {H0 : Hp} {cl0 : Cl}
theorem src_enT {ds : List D} {a : Addr} {vs : List V} (h : SqT g.K H0 a vs) (hd : DVs g ρ0 H0 cl0 ds vs) : SrcOk g (IteT g.K a) (.enT ds) ρ0 H0 cl0 := by
  refine ⟨⟨fun c => DVs g ρ0 H0 c ds vs, hd, fun _ _ hc z => z.mono (Pre.refl _) (Le.refl _) hc, fun hn _ _ z => DVs.noLam ds hn z, ?_⟩⟩
  intro cl ρ S H σd σ i o hp hl hd M e
  have h' := hl.sqT h
  have hd' := hd.mono hp hl (fun _ _ z => z)
  have e : (match nth ds i with | some x => some (D.tup [.int i, x]) | none => none) = o := Option.some.inj e
  rw [nth_eq] at e
  refine ⟨fun z => ⟨vs, h', ?_⟩, fun d z => ?_⟩
  · rw [z] at e
    cases ea : ds[i]? with
    | none =>
      rw [← hd.length]
      exact List.getElem?_eq_none_iff.mp ea
    | some x =>
      rw [ea] at e
      cases e
  · rw [z] at e
    cases ea : ds[i]? with
    | none =>
      rw [ea] at e
      cases e
    | some x =>
      rw [ea] at e
      cases e
      obtain ⟨v, v1, v2⟩ := hd'.get ea
      refine ⟨⟨vs, v, h', v1⟩, fun w H' q => ?_⟩
      obtain ⟨T, x', rfl, hT, rfl, f1⟩ := q
      have g1 : v = x' := Option.some.inj (v1.symm.trans (f1 vs h'))
      rw [← g1]
      have fx := v2.mono (Pre.refl _) (le_new (o := .tup [.int (i : Nat), v]) hT) (fun _ _ z => z)
      exact ⟨le_new hT, M.new hT, .inr ⟨rfl, _, T, _, rfl, rfl, SqT.of upd_same, _, _, rfl, rfl, v, [], rfl, fx, rfl⟩⟩
def enmOf (ds : List D) (S1 : Sto) : Option (Src × Sto) := match ds with
  | [d] => match d with
    | .tup l => some (.enT l, S1)
    | .loc n => opt (asL S1 (.loc n)) fun _ => some (.enL n, S1)
    | _ => none
  | _ => none
theorem i_enm (Gd : Good g C X bk sc cl k) (F : Facts g C.P) (hst : ∀ x p, ih.e bk sc (.Starred x p) = fun _ _ => none) (I : IhE g X bk sc cl ih) {tg : Expr} {as : List Expr} {p pos : Pos} (hg : isGlo sc "enumerate" = true) :
    PI X tg (.Call (.Name "enumerate" p) as [] pos) (tI g cl fun σ S => grd (isTupE tg) (bnd (evs ih bk sc as σ S) fun ds S1 => enmOf ds S1)) := by
  have gl : Gl X "enumerate" := Gd.scr.glo _ hg
  have mg : X.mg "enumerate" = none := by rw [Gd.mg]; exact F.enm
  obtain ⟨pa, ps⟩ := a_evs I hst as
  have never : (∀ σ S r, (grd (isTupE tg) (bnd (evs ih bk sc as σ S) fun ds S1 => enmOf ds S1)) = some r → False) → PI X tg (.Call (.Name "enumerate" p) as [] pos) (tI g cl fun σ S => grd (isTupE tg) (bnd (evs ih bk sc as σ S) fun ds S1 => enmOf ds S1)) := fun hn => PI.imp never_i fun σ H R h => by
    obtain ⟨ρ, σd, S, src, S1, M, e, q⟩ := h
    exact hn _ _ _ e
  cases ht : isTupE tg with
  | false =>
    rw [ht] at never
    exact never fun _ _ _ e => by cases e
  | true =>
    rw [ht] at never
    obtain ⟨elts, kk, tp, rfl⟩ : ∃ elts kk tp, tg = .Tuple elts kk tp := by
      cases tg <;> first | exact ⟨_, _, _, rfl⟩ | cases ht
    by_cases hs : ∀ x q, .Starred x q ∉ as
    · match as, pa, ps, hs, never with
      | [a], pa, _, hs, _ =>
        have s2 : starEach [a] X.env = [(false, eval a X.env)] := star1 fun x q z => hs x q (by rw [z]; simp)
        refine PI.imp (PI.or (pi_enum gl mg pa s2) (pi_enumT gl mg pa s2)) fun σ H R h => ?_
        obtain ⟨ρ, σd, S, src, S1, M, e, q⟩ := h
        obtain ⟨_, e⟩ := grd_some e
        obtain ⟨ds, Sa, e1, e⟩ := bnd_some e
        have hl := evs_len e1
        match ds, hl with
        | [d], _ =>
          cases d with
          | tup l =>
            cases e
            refine .inr ⟨ρ, σd, S, _, _, M, e1, fun ρ1 H1 vs p1 l1 M1 d1 => ?_⟩
            obtain ⟨v, r, rfl, h1, h2⟩ := d1
            have h2 : r = [] := h2
            subst h2
            obtain ⟨a', xs, rfl, h3, h4⟩ := h1
            rw [Gd.K]
            exact ⟨a', xs, rfl, h3.sq, q ρ1 H1 _ p1 l1 M1 (src_enT h3.sq h4)⟩
          | loc n =>
            obtain ⟨l, e2, e⟩ := opt_some (show opt (asL Sa (.loc n)) (fun _ => some (Src.enL n, Sa)) = some (src, S1) from e)
            cases e
            refine .inl ⟨ρ, σd, S, _, _, M, e1, fun ρ1 H1 vs p1 l1 M1 d1 => ?_⟩
            obtain ⟨v, r, rfl, h1, h2⟩ := d1
            have h2 : r = [] := h2
            subst h2
            obtain ⟨m, b, ws, hm, h3, rfl, h4, h5⟩ := M1.lst h1 e2
            cases hm
            rw [Gd.K]
            exact ⟨b, ws, rfl, SqL.of h4, q ρ1 H1 _ p1 l1 M1 (src_enL h3)⟩
          | _ => cases e
      | [], _, _, _, never =>
        refine never fun σ S r e => ?_
        obtain ⟨_, e⟩ := grd_some e
        obtain ⟨ds, Sa, e1, e⟩ := bnd_some e
        cases e1
        cases e
      | _ :: _ :: _, _, _, _, never =>
        refine never fun σ S r e => ?_
        obtain ⟨_, e⟩ := grd_some e
        obtain ⟨ds, Sa, e1, e⟩ := bnd_some e
        have hl := evs_len e1
        match ds, hl with
        | _ :: _ :: _, _ => cases e
    · refine never fun σ S r e => ?_
      obtain ⟨_, e⟩ := grd_some e
      obtain ⟨ds, Sa, e1, e⟩ := bnd_some e
      exact hs (ps _ _ _ e1)
end
end K76
end

/-! text Blk -/
section
namespace K76
open PySem PySem.Spec PyProof.Rows L2
theorem rel_look {sc : Scope} {x : Str} {k : NameKind} : ∀ {names : List (Str × NameKind)}, names.lookup x = some k →
    ∃ k', (names.map fun (n, k) => if (k == NameKind.free && sc.kind == .function && sc.names.lookup n == some .cell) then (n, NameKind.cell) else (n, k)).lookup x = some k' ∧ (k' = k ∨ (k = .free ∧ k' = .cell))
  | [], h => by simp at h
  | (n, k0) :: r, h => by
    rw [List.map_cons]
    rw [List.lookup_cons] at h
    cases hx : x == n with
    | true =>
      rw [hx] at h
      have h' : k0 = k := Option.some.inj h
      subst h'
      by_cases hc : (k0 == NameKind.free && sc.kind == .function && sc.names.lookup n == some .cell) = true
      · refine ⟨.cell, ?_, .inr ⟨?_, rfl⟩⟩
        · show List.lookup x ((if (k0 == NameKind.free && sc.kind == .function && sc.names.lookup n == some .cell) = true then (n, NameKind.cell) else (n, k0)) :: _) = _
          rw [if_pos hc, List.lookup_cons, hx]
        · simp only [Bool.and_eq_true, beq_iff_eq] at hc
          exact hc.1.1
      · refine ⟨k0, ?_, .inl rfl⟩
        show List.lookup x ((if (k0 == NameKind.free && sc.kind == .function && sc.names.lookup n == some .cell) = true then (n, NameKind.cell) else (n, k0)) :: _) = _
        rw [if_neg hc, List.lookup_cons, hx]
    | false =>
      rw [hx] at h
      obtain ⟨k', h1, h2⟩ := rel_look (sc := sc) h
      refine ⟨k', ?_, h2⟩
      show List.lookup x ((if (k0 == NameKind.free && sc.kind == .function && sc.names.lookup n == some .cell) = true then (n, NameKind.cell) else (n, k0)) :: _) = _
      by_cases hc : (k0 == NameKind.free && sc.kind == .function && sc.names.lookup n == some .cell) = true
      · rw [if_pos hc, List.lookup_cons, hx]
        exact h1
      · rw [if_neg hc, List.lookup_cons, hx]
        exact h1
theorem isOwn_look {sc : Scope} {x : Str} (h : isOwn sc x = true) : sc.names.lookup x = some .local ∨ sc.names.lookup x = some .cell ∨ sc.names.lookup x = some .free := by
  unfold isOwn at h
  rw [look_eq] at h
  cases e : sc.names.lookup x with
  | none =>
    rw [e] at h
    cases h
  | some k =>
    rw [e] at h
    cases k <;> first | exact .inl rfl | exact .inr (.inl rfl) | exact .inr (.inr rfl) | cases h
theorem isLoc_look {sc : Scope} {x : Str} (h : isLoc sc x = true) : sc.names.lookup x = some .local ∨ sc.names.lookup x = some .cell := by
  unfold isLoc at h
  rw [look_eq] at h
  cases e : sc.names.lookup x with
  | none =>
    rw [e] at h
    cases h
  | some k =>
    rw [e] at h
    cases k <;> first | exact .inl rfl | exact .inr rfl | cases h
theorem isGlo_look {sc : Scope} {x : Str} (h : isGlo sc x = true) : sc.names.lookup x = some .globalImplicit := by
  unfold isGlo at h
  rw [look_eq] at h
  cases e : sc.names.lookup x with
  | none =>
    rw [e] at h
    cases h
  | some k =>
    rw [e] at h
    cases k <;> first | rfl | cases h
theorem scR_self (sc : Scope) : ScR sc sc := ⟨fun _ h => isOwn_look h, fun _ h => isGlo_look h, fun _ h => isLoc_look h, fun _ h => h⟩
theorem scR_rel (sc sc0 : Scope) : ScR sc (relS sc sc0) where
  own := fun x h => by
    rcases isOwn_look h with e | e | e
    · obtain ⟨k', h1, h2 | ⟨h2, _⟩⟩ := rel_look (sc := sc0) e
      · subst h2
        exact .inl h1
      · cases h2
    · obtain ⟨k', h1, h2 | ⟨h2, _⟩⟩ := rel_look (sc := sc0) e
      · subst h2
        exact .inr (.inl h1)
      · cases h2
    · obtain ⟨k', h1, h2 | ⟨_, h2⟩⟩ := rel_look (sc := sc0) e
      · subst h2
        exact .inr (.inr h1)
      · subst h2
        exact .inr (.inl h1)
  glo := fun x h => by
    obtain ⟨k', h1, h2 | ⟨h2, _⟩⟩ := rel_look (sc := sc0) (isGlo_look h)
    · subst h2
      exact h1
    · cases h2
  loc := fun x h => by
    rcases isLoc_look h with e | e
    · obtain ⟨k', h1, h2 | ⟨h2, _⟩⟩ := rel_look (sc := sc0) e
      · subst h2
        exact .inl h1
      · cases h2
    · obtain ⟨k', h1, h2 | ⟨h2, _⟩⟩ := rel_look (sc := sc0) e
      · subst h2
        exact .inr h1
      · cases h2
  cf := fun x h => by
    rcases h with e | e
    · obtain ⟨k', h1, h2 | ⟨h2, _⟩⟩ := rel_look (sc := sc0) e
      · subst h2
        exact .inl h1
      · cases h2
    · obtain ⟨k', h1, h2 | ⟨_, h2⟩⟩ := rel_look (sc := sc0) e
      · subst h2
        exact .inr h1
      · subst h2
        exact .inl h1
/-- nothing is known of untracked cells -/
abbrev cl0 : ClF := fun _ _ _ _ => False
section
variable {g : G} {C : Cx1} {X : Cx} {bk : Bool} {sc sc0 : Scope} {cl : ClF} {k : Nat} {ih : Ih}
theorem Good.blk (Gd : Good g C X bk sc0 cl k) (s : Shared) (H : Hp) (Ca : Addr) (cs : List (Str × Addr)) (fp : List Addr) : Good g C (X.blk s H sc (compEnvC sc cs Ca X.env) fp) true sc cl0 k where
  P := Gd.P
  w := Gd.w
  K := Gd.K
  mg := Gd.mg
  base := Gd.base
  xe := rfl
  N := Gd.N
  nd := Gd.nd
  calm := Gd.calm
  room := Gd.room
  scr := scR_rel sc X.env.scope
  fn := fun x h => by
    rcases isLoc_look h with e | e
    · obtain ⟨k', h1, h2 | ⟨h2, _⟩⟩ := rel_look (sc := X.env.scope) e
      · subst h2
        exact .inr h1
      · cases h2
    · refine .inl ?_
      show (sc.names.lookup x == some NameKind.cell) = true
      rw [e]
      rfl
  clT := fun _ _ _ _ _ _ _ _ z => z.elim
  lamB := fun _ _ _ _ _ z => z
  ndbg := Gd.ndbg
  lmk := fun z => (by cases z)
theorem up0 : ClUp C sc cl0 := fun _ _ _ _ _ _ _ _ _ => fun _ _ z => z
/-! the block's own names -/
def ownIx (N : List Str) (sc : Scope) : List (Str × Nat) := (compSc sc).map fun x => (x, (findIx x N 0).getD 0)
theorem mem_compSc {sc : Scope} {x : Str} : x ∈ compSc sc ↔ ∃ k, (x, k) ∈ sc.names ∧ (k = .local ∨ k = .cell) := by
  unfold compSc
  rw [List.mem_map]
  constructor
  · rintro ⟨⟨y, k⟩, h, rfl⟩
    obtain ⟨h1, h2⟩ := List.mem_filter.mp h
    refine ⟨k, h1, ?_⟩
    cases k <;> first | exact .inl rfl | exact .inr rfl | cases h2
  · rintro ⟨k, h, e⟩
    refine ⟨(x, k), List.mem_filter.mpr ⟨h, ?_⟩, rfl⟩
    rcases e with e | e <;> (subst e; rfl)
theorem blkChk_at {N : List Str} {sc0 sc : Scope} (h : blkChk N sc0 sc = true) : sc.kind = .function ∧ ∀ y ∈ sc.names, sc.names.lookup y.1 = some y.2 ∧ (y.2 = .free → sc0.names.lookup y.1 = some .cell ∨ sc0.names.lookup y.1 = some .free) ∧ (y.2 = .local ∨ y.2 = .cell → ∃ i, findIx y.1 N 0 = some i) := by
  unfold blkChk at h
  obtain ⟨h1, h2⟩ := Bool.and_eq_true_iff.mp h
  have hk : sc.kind = .function := by
    cases e : sc.kind <;> rw [e] at h1 <;> first | rfl | cases h1
  refine ⟨hk, fun y hy => ?_⟩
  have h3 := List.all_eq_true.mp h2 y hy
  obtain ⟨h4, h5⟩ := Bool.and_eq_true_iff.mp h3
  rw [look_eq] at h4
  refine ⟨?_, fun e => ?_, fun e => ?_⟩
  · cases q : sc.names.lookup y.1 with
    | none =>
      rw [q] at h4
      cases h4
    | some k =>
      rw [q] at h4
      rw [beq_iff_eq.mp h4]
  · rw [e] at h5
    rw [look_eq] at h5
    cases q : sc0.names.lookup y.1 with
    | none =>
      rw [q] at h5
      cases h5
    | some k =>
      rw [q] at h5
      cases k <;> first | exact .inl rfl | exact .inr rfl | cases h5
  · have h6 : hasIx y.1 N = true := by
      rcases e with e | e <;> (rw [e] at h5; exact h5)
    unfold hasIx at h6
    cases q : findIx y.1 N 0 with
    | none =>
      rw [q] at h6
      cases h6
    | some i => exact ⟨i, rfl⟩
theorem blkOk_of (Gd : Good g C X bk sc0 cl k) (h : blkChk C.N sc0 sc = true) : BlkOk X.N X.env.scope sc (ownIx C.N sc) := by
  obtain ⟨h1, h2⟩ := blkChk_at h
  refine ⟨h1, fun y hy => (h2 y hy).1, fun p hp => ?_, fun y hy e => Gd.scr.cf _ ((h2 y hy).2.1 e), fun y hy e => .inl ?_⟩
  · obtain ⟨x, hx, rfl⟩ := List.mem_map.mp hp
    obtain ⟨kk, hk, e⟩ := mem_compSc.mp hx
    obtain ⟨i, hi⟩ := (h2 _ hk).2.2 e
    show X.N[(findIx x C.N 0).getD 0]? = some x
    rw [hi, Gd.N]
    exact findIx_0 hi
  · rw [List.mem_map]
    exact ⟨(y.1, (findIx y.1 C.N 0).getD 0), List.mem_map.mpr ⟨y.1, mem_compSc.mpr ⟨y.2, hy, e⟩, rfl⟩, rfl⟩
/-- the names forgotten, on both sides -/
theorem wipe_env {ρ : List Addr} {H : Hp} {cc : Cl} {N : List Str} : ∀ (xs : List Str) {σd : Env1} {σ : L2.St}, (∀ x ∈ xs, ∃ i, findIx x N 0 = some i) → EnvR g cc ρ H σd σ → EnvR g cc ρ H (wipeN N xs σd) (wipe σ (xs.map fun x => (findIx x N 0).getD 0))
  | [], _, _, _, E => E
  | x :: r, σd, σ, h, E => by
    obtain ⟨i, hi⟩ := h x List.mem_cons_self
    have ih := wipe_env r (fun y hy => h y (List.mem_cons_of_mem _ hy)) E
    have e1 : wipeN N (x :: r) σd = (wipeN N r σd).set i none := by
      show (match findIx x N 0 with | some i => setN (wipeN N r σd) i none | none => wipeN N r σd) = _
      rw [hi]
      exact setN_eq _ _ _
    have e2 : wipe σ ((x :: r).map fun x => (findIx x N 0).getD 0) = (wipe σ (r.map fun x => (findIx x N 0).getD 0)).set i none := by
      rw [List.map_cons, hi]
      rfl
    rw [e1, e2]
    refine ⟨by rw [List.length_set, List.length_set]; exact ih.len, fun j d e => ?_⟩
    by_cases hj : j = i
    · subst hj
      by_cases hl : j < (wipeN N r σd).length
      · rw [List.getElem?_set_self hl] at e
        cases e
      · rw [List.getElem?_eq_none (by rw [List.length_set]; omega)] at e
        cases e
    · rw [List.getElem?_set_ne (Ne.symm hj)] at e ⊢
      exact ih.at_ j d e
end
end K76
end

/-! text Bot -/
section
namespace K76
open PySem PySem.Spec PyProof.Rows L2
section
variable {g : G} {ρ : List Addr} {H : Hp} {c1 c2 : Cl}
theorem KvR.bot : ∀ (kvs : List (D × D)) {ks : List (Key × V)}, noLamKv kvs = true → KvR g ρ H c1 kvs ks → KvR g ρ H c2 kvs ks
  | [], _, _, h => h
  | p :: r, _, e, ⟨k, v, q, h0, h1, h2, h3⟩ => by
    have e : (match noLam p.1 && noLam p.2 with | true => noLamKv r | false => false) = true := e
    cases hd : noLam p.1 && noLam p.2 with
    | false => rw [hd] at e; cases e
    | true =>
      rw [hd] at e
      exact ⟨k, v, q, h0, h1, DV.noLam _ (Bool.and_eq_true_iff.mp hd).2 h2, KvR.bot r e h3⟩
theorem NvR.bot : ∀ (kvs : List (D × D)) {xs : List (NestedKey × Addr × Value)}, noLamKv kvs = true → NvR g ρ H c1 kvs xs → NvR g ρ H c2 kvs xs
  | [], _, _, h => h
  | p :: r, _, e, ⟨nk, ka, u, v, q, h0, h1, h2, h3, h4, h5, h6, h7⟩ => by
    have e : (match noLam p.1 && noLam p.2 with | true => noLamKv r | false => false) = true := e
    cases hd : noLam p.1 && noLam p.2 with
    | false => rw [hd] at e; cases e
    | true =>
      rw [hd] at e
      obtain ⟨d1, d2⟩ := Bool.and_eq_true_iff.mp hd
      exact ⟨nk, ka, u, v, q, h0, h1, h2, h3, DV.noLam _ d1 h4, h5, DV.noLam _ d2 h6, NvR.bot r e h7⟩
theorem FsR.bot : ∀ (fs : List (Str × D)) {vs : List (Str × V)}, noLamFs fs = true → FsR g ρ H c1 fs vs → FsR g ρ H c2 fs vs
  | [], _, _, h => h
  | p :: r, _, e, ⟨v, q, h0, h1, h2⟩ => by
    have e : (match noLam p.2 with | true => noLamFs r | false => false) = true := e
    cases hd : noLam p.2 with
    | false => rw [hd] at e; cases e
    | true =>
      rw [hd] at e
      exact ⟨v, q, h0, DV.noLam _ hd h1, FsR.bot r e h2⟩
theorem OR.bot {a : Addr} : ∀ (o : OD), noLamO o = true → OR g ρ H c1 o a → OR g ρ H c2 o a
  | .lst ds, e, ⟨vs, h1, h2⟩ => ⟨vs, h1, DVs.noLam ds e h2⟩
  | .dct kvs, e, .inl ⟨h0, ks, h1, hn, h2⟩ => .inl ⟨h0, ks, h1, hn, KvR.bot kvs e h2⟩
  | .dct kvs, e, .inr ⟨h0, o, es, ep, xs, h1, h2, h3, h4, h5, h6, h7, h8⟩ => .inr ⟨h0, o, es, ep, xs, h1, h2, h3, h4, h5, h6, h7, NvR.bot kvs e h8⟩
  | .set _, _, h => h
  | .ins c fs, e, ⟨C, dx, fvs, h0, h1, h2⟩ => ⟨C, dx, fvs, h0, h1, FsR.bot fs e h2⟩
  | .dead, _, h => h
theorem noLamSt_at : ∀ {S : Sto} {n : Nat} {o : OD}, noLamSt S = true → S[n]? = some o → noLamO o = true
  | [], _, _, _, e => by simp at e
  | p :: r, n, o, h, e => by
    have h : (match noLamO p with | true => noLamSt r | false => false) = true := h
    cases hd : noLamO p with
    | false => rw [hd] at h; cases h
    | true =>
      rw [hd] at h
      cases n with
      | zero =>
        simp at e
        rw [← e]
        exact hd
      | succ n => exact noLamSt_at h (by simpa using e)
theorem noLamEnv_at : ∀ {σ : Env1} {i : Nat} {d : D}, noLamEnv σ = true → σ[i]? = some (some d) → noLam d = true
  | [], _, _, _, e => by simp at e
  | none :: r, i, d, h, e => by
    cases i with
    | zero => simp at e
    | succ i => exact noLamEnv_at (σ := r) h (by simpa using e)
  | some p :: r, i, d, h, e => by
    have h : (match noLam p with | true => noLamEnv r | false => false) = true := h
    cases hd : noLam p with
    | false => rw [hd] at h; cases h
    | true =>
      rw [hd] at h
      cases i with
      | zero =>
        simp at e
        rw [← e]
        exact hd
      | succ i => exact noLamEnv_at (σ := r) h (by simpa using e)
/-- nothing hangs on cells -/
theorem Sim.bot {lam : Bool} {src : Src} {S : Sto} {σd : Env1} {σ : L2.St} (h : lamFree lam src σd S = true) (hc : lam = false → ∀ c v, ¬ c1 c v) (M : Sim g c1 ρ S H σd σ) : Sim g c2 ρ S H σd σ := by
  cases lam with
  | false =>
    have lc : ClLe c1 c2 := fun c v z => (hc rfl c v z).elim
    exact ⟨M.rel.clm lc, M.env.mono (Pre.refl _) (Le.refl _) lc⟩
  | true =>
    obtain ⟨h1, h2⟩ := Bool.and_eq_true_iff.mp (Bool.and_eq_true_iff.mp h).2
    refine ⟨⟨M.rel.len, M.rel.nd, fun n o a e1 e2 => OR.bot o (noLamSt_at h2 e1) (M.rel.sto n o a e1 e2), M.rel.tab⟩, ⟨M.env.len, fun i d e => ?_⟩⟩
    obtain ⟨v, e1, e2⟩ := M.env.at_ i d e
    exact ⟨v, e1, DV.noLam d (noLamEnv_at h1 e) e2⟩
end
end K76
end

/-! text Lc -/
section
namespace K76
open PySem PySem.Spec PyProof.Rows L2
section
variable {g : G} {C : Cx1} {X : Cx} {bk : Bool} {sc sc0 : Scope} {cl : ClF} {k : Nat} {ih : Ih}
theorem PTs.imp {e : List Expr} {t t' : TT} (h : PTs X e t) (i : ∀ σ H Q, t' σ H Q → t σ H Q) : PTs X e t' := ⟨fun pins s σ H Q I q => h.run pins s σ H Q I (i _ _ _ q)⟩
theorem t_tsts (I : IhE g X true sc cl ih) : ∀ ifs : List Expr, PTs X ifs (tT g cl (tsts ih true sc ifs))
  | [] => PTs.imp pts_nil fun σ H Q h => by
    obtain ⟨ρ, σd, S, b, S1, M, e, q⟩ := h
    cases e
    exact q ρ H (Pre.refl _) (Le.refl _) M
  | [e] => pts_one (I.t e)
  | _ :: _ :: _ => ⟨fun pins s σ H Q I h => by
    obtain ⟨ρ, σd, S, b, S1, M, e, q⟩ := h
    cases e⟩
/-! ### the slots that a block forgets -/
abbrev ixs (N : List Str) (xs : List Str) : List Nat := xs.map fun x => (findIx x N 0).getD 0
theorem own_ix (N : List Str) (sc : Scope) : (ownIx N sc).map (·.2) = ixs N (compSc sc) := by
  unfold ownIx ixs
  rw [List.map_map]
  rfl
theorem wipe_at : ∀ (vs : List Nat) (σ : L2.St) (i : Nat), (wipe σ vs)[i]? = if i ∈ vs ∧ i < σ.length then some none else σ[i]?
  | [], σ, i => by simp [wipe]
  | v :: vs, σ, i => by
    show ((wipe σ vs).set v none)[i]? = _
    by_cases hv : v = i
    · subst hv
      by_cases hl : v < σ.length
      · rw [List.getElem?_set_self (by rw [wipe_length]; exact hl), if_pos ⟨by simp, hl⟩]
      · rw [List.getElem?_eq_none (by rw [List.length_set, wipe_length]; omega), if_neg (fun z => hl z.2), List.getElem?_eq_none (by omega)]
    · rw [List.getElem?_set_ne hv, wipe_at vs σ i]
      have e : (i ∈ v :: vs ∧ i < σ.length) ↔ (i ∈ vs ∧ i < σ.length) := by
        rw [List.mem_cons]
        exact ⟨fun z => ⟨z.1.resolve_left (Ne.symm hv), z.2⟩, fun z => ⟨.inr z.1, z.2⟩⟩
      simp only [e]
theorem wipe_eq {σ τ : L2.St} {vs : List Nat} (hl : σ.length = τ.length) (h : ∀ i, i ∉ vs → σ[i]? = τ[i]?) : wipe σ vs = wipe τ vs := by
  apply List.ext_getElem?
  intro i
  rw [wipe_at, wipe_at, hl]
  by_cases hi : i ∈ vs
  · by_cases hlt : i < τ.length
    · rw [if_pos ⟨hi, hlt⟩, if_pos ⟨hi, hlt⟩]
    · rw [if_neg (fun z => hlt z.2), if_neg (fun z => hlt z.2), List.getElem?_eq_none (by omega), List.getElem?_eq_none (by omega)]
  · rw [if_neg (fun z => hi z.1), if_neg (fun z => hi z.1)]
    exact h i hi
theorem wipe_twice (σ : L2.St) (vs : List Nat) : wipe (wipe σ vs) vs = wipe σ vs := wipe_eq (wipe_length _ _) fun i hi => by rw [wipe_at, if_neg fun z => hi z.1]
/-- names of a target that are the block's own stand among the places xs -/
theorem wipe_kept (nd : C.N.Nodup) {ns xs : List Str} {σ σ' : L2.St} (hx : ∀ x, x ∈ ns → isLoc sc x = true → x ∈ xs) (hi : ∀ x ∈ xs, ∃ i, findIx x C.N 0 = some i) (K : Kept1 C sc ns σ σ') : wipe σ' (ixs C.N xs) = wipe σ (ixs C.N xs) := by
  refine wipe_eq K.len fun i hn => K.out i fun x h1 h2 h3 => hn ?_
  obtain ⟨j, hj⟩ := hi x (hx x h2 h3)
  have e : i = j := nodup_ix nd h1 (findIx_0 hj)
  exact List.mem_map.mpr ⟨x, hx x h2 h3, by rw [hj, e]; rfl⟩
theorem loc_comp {x : Str} (h : isLoc sc x = true) : x ∈ compSc sc := by
  rcases isLoc_look h with e | e
  · exact mem_compSc.mpr ⟨_, PySem.mem_of_lookup e, .inl rfl⟩
  · exact mem_compSc.mpr ⟨_, PySem.mem_of_lookup e, .inr rfl⟩
theorem comp_ix (h : blkChk C.N sc0 sc = true) : ∀ x ∈ compSc sc, ∃ i, findIx x C.N 0 = some i := fun x hx => by
  obtain ⟨k, hk, e⟩ := mem_compSc.mp hx
  exact ((blkChk_at h).2 _ hk).2.2 e
theorem tgOwn_sub {tg : Expr} : ∀ x ∈ tgOwn sc tg, x ∈ compSc sc := fun x hx => loc_comp (List.mem_filter.mp hx).2
/-! ### a turn of a clause -/
/-- the places of the store that stood, as far as the block's start goes -/
structure At (g : G) (C : Cx1) (ρ0 : List Addr) (H0 : Hp) (σd : Env1) (σ : L2.St) (S : Sto) (H : Hp) : Prop where
  ex : ∃ ρ, Pre ρ0 ρ ∧ Le H0 H ∧ Rel g (fun _ _ => False) ρ S H
abbrev bot : Cl := fun _ _ => False
/-- the loop's invariant -/
def LcW (g : G) (C : Cx1) (ih : Ih) (sc : Scope) (tg : Expr) (ifs : List Expr) (src : Src) (f : Env1 → Sto → Option Sto) (ρ0 : List Addr) (H0 : Hp) (σd : Env1) (σ : L2.St) (S2 : Sto) : Nat → Nat → Hp → Prop := fun i m H =>
  ∃ ρ S, Pre ρ0 ρ ∧ Le H0 H ∧ Sim g bot ρ S H σd σ ∧ lcGo C ih sc tg ifs src f m i σd S = some S2
/-- a turn of a clause: what the item's part EL makes -/
theorem lc_turn {tg : Expr} {ifs : List Expr} {src : Src} {f : Env1 → Sto → Option Sto} {ρ0 : List Addr} {H0 : Hp} {σd : Env1} {σ σv : L2.St} {S2 : Sto} {J : It} {EL : L2.St → Hp → (Hp → Prop) → Prop} {Qend : Hp → Prop} {vs : List Nat} {WW : L2.St → Prop}
    (ok : SrcOk g J src ρ0 H0 bot) (hwk : src.weak = true → isTupE tg = true) (eσ : wipe σv vs = σ) (hW : ∀ σ2, Kept1 C sc (tgNs tg) σ σ2 → WW σ2)
    (hEL : ∀ (ρ : List Addr) (S S' : Sto) (H : Hp) (σ2d : Env1) (σ2 : L2.St) (Nx : Hp → Prop), Pre ρ0 ρ → Le H0 H → Sim g bot ρ S H σ2d σ2 → f σ2d S = some S' → (∀ ρ' H', Pre ρ ρ' → Le H H' → Rel g bot ρ' S' H' → Nx H') → EL σ2 H Nx)
    (hend : ∀ ρ H, Pre ρ0 ρ → Le H0 H → Rel g bot ρ S2 H → Qend H) (i m : Nat) (H : Hp) (w : LcW g C ih sc tg ifs src f ρ0 H0 σd σ S2 i m H) :
    (J.stop i H ∧ Qend H) ∨ (J.go i H ∧ ∃ Nx : Hp → Prop, (∀ H', Nx H' → ∃ m', m' < m ∧ LcW g C ih sc tg ifs src f ρ0 H0 σd σ S2 (i + 1) m' H') ∧ ∀ x H', J.yld i H x H' → tGw g C sc cl0 (tgNs tg) (isTupE tg) (fun d σ S => asgT C sc S 20 tg d σ) x (wipe σv vs) H' fun σ2 H2 => WW σ2 ∧
      tT g cl0 (tsts ih true sc ifs) σ2 H2 fun b H3 => if b = true then EL σ2 H3 Nx else Nx H3) := by
  obtain ⟨ρ, S, hp, hl, M, e⟩ := w
  cases m with
  | zero => cases e
  | succ n =>
    obtain ⟨o, e1, e⟩ := opt_some (show opt (src.at S i) (fun o => match o with
      | none => some S
      | some d => opt (asgT C sc S 20 tg d σd) fun σ1 => bnd (tsts ih true sc ifs σ1 S) fun b S1 => match b with
        | true => opt (f σ1 S1) fun S2 => lcGo C ih sc tg ifs src f n (i + 1) σd S2
        | false => lcGo C ih sc tg ifs src f n (i + 1) σd S1) = some S2 from e)
    obtain ⟨h1, h2⟩ := ok.at hp hl M e1
    cases o with
    | none =>
      cases e
      exact .inl ⟨h1 rfl, hend ρ H hp hl M.rel⟩
    | some d =>
      obtain ⟨h3, h4⟩ := h2 d rfl
      refine .inr ⟨h3, fun H' => ∃ ρ S, Pre ρ0 ρ ∧ Le H0 H' ∧ Sim g bot ρ S H' σd σ ∧ lcGo C ih sc tg ifs src f n (i + 1) σd S = some S2, fun H' h => ⟨n, Nat.lt_succ_self _, h⟩, fun x H' y => ?_⟩
      obtain ⟨l1, M1, hd⟩ := h4 x H' y
      obtain ⟨σ1, e2, e⟩ := opt_some e
      obtain ⟨b, S1, e3, e⟩ := bnd_some e
      rw [eσ]
      refine ⟨ρ, σd, S, d, σ1, M1, hd.imp_right (fun z => ⟨hwk z.1, z.2⟩), e2, fun σ2 M2 _ K2 => ⟨hW σ2 K2, ρ, σ1, S, b, S1, M2, e3, fun ρ3 H3 p3 l3 M3 => ?_⟩⟩
      have env : ∀ {ρ' : List Addr} {H'' : Hp}, Pre ρ ρ' → Le H H'' → EnvR g bot ρ' H'' σd σ := fun {ρ' H''} a b => M.env.mono a b fun _ _ z => z
      cases b with
      | true =>
        obtain ⟨S3, e4, e⟩ := opt_some e
        show (if true = true then _ else _)
        rw [if_pos rfl]
        exact hEL ρ3 S1 S3 H3 σ1 σ2 _ (hp.trans p3) (hl.trans (l1.trans l3)) M3 e4 fun ρ4 H4 p4 l4 R4 => ⟨ρ4, S3, (hp.trans p3).trans p4, (hl.trans (l1.trans l3)).trans l4, ⟨R4, env (p3.trans p4) ((l1.trans l3).trans l4)⟩, e⟩
      | false =>
        show (if false = true then _ else _)
        rw [if_neg Bool.false_ne_true]
        exact ⟨ρ3, S1, hp.trans p3, hl.trans (l1.trans l3), ⟨M3.rel, env p3 (l1.trans l3)⟩, e⟩
/-- where a comprehension starts -/
theorem lc_start (hb : blkChk C.N sc0 sc = true) {src : Src} {ρ1 : List Addr} {S1 : Sto} {H1 : Hp} {σd : Env1} {σ : L2.St} {J : It} {D : Addr} {o : HO} {ob : OD} (Gl : C.lam = false → ∀ σd σ c v, ¬ cl σd σ c v)
    (M : Sim g (cl σd σ) ρ1 S1 H1 σd σ) (ok : SrcOk g J src ρ1 H1 (cl σd σ)) (hf : lamFree C.lam src σd S1 = true) (hD : H1 D = none) (ho : OR g (ρ1 ++ [D]) (upd H1 D o) bot ob D) :
    SrcOk g J src (ρ1 ++ [D]) (upd H1 D o) bot ∧ Sim g bot (ρ1 ++ [D]) (S1 ++ [ob]) (upd H1 D o) (wipeN C.N (compSc sc) σd) (wipe σ (ixs C.N (compSc sc))) := by
  constructor
  · have ok1 : SrcOk g J src ρ1 H1 bot := by
      cases hl : C.lam with
      | false => exact ok.mono fun c v z => (Gl hl _ _ c v z).elim
      | true =>
        rw [hl] at hf
        exact ok.noLam (Bool.and_eq_true_iff.mp hf).1
    obtain ⟨φ, a, b, c, d⟩ := ok1.ex
    exact ⟨⟨φ, a, b, c, fun cl ρ S H σd σ i o hp hl hφ M e => d cl ρ S H σd σ i o (Pre.trans ⟨[D], rfl⟩ hp) ((le_new hD).trans hl) hφ M e⟩⟩
  · have M1 : Sim g bot ρ1 S1 H1 σd σ := Sim.bot (c1 := cl σd σ) hf (fun h => Gl h σd σ) M
    have M2 := M1.push hD ho
    exact ⟨M2.rel, wipe_env _ (comp_ix hb) M2.env⟩
/-- behind it -/
theorem lc_end {ρ1 ρ' : List Addr} {S1 S2 : Sto} {H1 H' : Hp} {σd : Env1} {σ : L2.St} {D : Addr} {o : HO} {Q : VK} (M : Sim g (cl σd σ) ρ1 S1 H1 σd σ) (hD : H1 D = none) (hp : Pre (ρ1 ++ [D]) ρ') (hl : Le (upd H1 D o) H') (R : Rel g bot ρ' S2 H')
    (q : ∀ ρ' H' v, Pre ρ1 ρ' → Le H1 H' → Sim g (cl σd σ) ρ' S2 H' σd σ → DV g ρ' H' (cl σd σ) (.loc S1.length) v → Q v H') : Q (.ref D) H' := by
  have p1 : Pre ρ1 ρ' := Pre.trans ⟨[D], rfl⟩ hp
  have l1 : Le H1 H' := (le_new hD).trans hl
  refine q ρ' H' _ p1 l1 ⟨R.clm fun _ _ z => z.elim, M.env.mono p1 l1 fun _ _ z => z⟩ ⟨D, hp.get ?_, rfl⟩
  rw [List.getElem?_append_right (by rw [M.rel.len]; exact Nat.le_refl _), M.rel.len, Nat.sub_self]
  rfl
theorem atD {ρ1 ρ : List Addr} {S1 : Sto} {D a : Addr} (hl : ρ1.length = S1.length) (hp : Pre (ρ1 ++ [D]) ρ) (e : ρ[S1.length]? = some a) : a = D := by
  have h : (ρ1 ++ [D])[S1.length]? = some D := by
    rw [List.getElem?_append_right (by rw [hl]; exact Nat.le_refl _), hl, Nat.sub_self]
    rfl
  rw [hp.get h] at e
  exact (Option.some.inj e).symm
/-- what is known in every context -/
structure IhAll (g : G) (C : Cx1) (k : Nat) (ih : Ih) : Prop where
  e : ∀ (X : Cx) (bk : Bool) (sc : Scope) (cl : ClF), Good g C X bk sc cl k → IhE g X bk sc cl ih
/-- the item goes to the list -/
theorem el_lst {el : Expr} {ρ1 : List Addr} {S1 : Sto} {H0 : Hp} {D : Addr} (hlen : ρ1.length = S1.length) (ρ : List Addr) (S S' : Sto) (H : Hp) (σ2d : Env1) (σ2 : L2.St) (Nx : Hp → Prop) (hp : Pre (ρ1 ++ [D]) ρ) (hl : Le H0 H) (M : Sim g bot ρ S H σ2d σ2) (e : lcOne ih sc el S1.length σ2d S = some S')
    (nx : ∀ ρ' H', Pre ρ ρ' → Le H H' → Rel g bot ρ' S' H' → Nx H') : tE g cl0 (ih.e true sc el) σ2 H fun y H4 => ∃ acc, H4 D = some (.lst acc) ∧ acc.length < sizeLine ∧ Nx (upd H4 D (.lst (acc ++ [y]))) := by
  obtain ⟨d, Sa, e1, e⟩ := bnd_some e
  obtain ⟨acc, e2, e⟩ := opt_some e
  obtain ⟨e3, e⟩ := grd_some e
  cases e
  refine ⟨ρ, σ2d, S, d, Sa, M, e1, fun ρ4 H4 v p4 l4 M4 d4 => ?_⟩
  obtain ⟨a, vs, h1, h2, h3⟩ := M4.lstAt e2
  have ea := atD hlen (hp.trans p4) h1
  subst ea
  have lw : Le H4 (upd H4 a (.lst (vs ++ [v]))) := le_write h2 trivial
  refine ⟨vs, h2, by rw [← h3.length]; exact line16' (small_le e3), nx ρ4 _ p4 (l4.trans lw) ?_⟩
  rw [setN_eq]
  exact M4.rel.set h1 h2 trivial ⟨_, upd_same, (h3.append (.cons d4 .nil)).mono (Pre.refl _) lw fun _ _ z => z⟩
end
end K76
end

/-! text Src2 -/
section
namespace K76
open PySem PySem.Spec PyProof.Rows L2
/-- what the evaluator never tells -/
structure IhNo (ih : Ih) : Prop where
  star : ∀ bk sc x p, ih.e bk sc (.Starred x p) = fun _ _ => none
  set : ∀ bk sc es j p, ih.e bk sc (.Set es j p) = fun _ _ => none
section
variable {g : G} {C : Cx1} {X : Cx} {bk : Bool} {sc sc0 : Scope} {cl : ClF} {k : Nat} {ih : Ih}
theorem free1_glo {P : Prog1} {x : Str} (h : free1 P sc x = true) : isGlo sc x = true := by
  unfold free1 at h
  simp only [Bool.and_eq_true] at h
  exact h.1.1.1
theorem i_src (Gd : Good g C X bk sc cl k) (F : Facts g C.P) (no : IhNo ih) (I : IhE g X bk sc cl ih) (tg it : Expr) : PI X tg it (tI g cl (evSrc C ih bk sc tg it)) := by
  have dflt : PI X tg it (tI g cl fun σ S => bnd (ih.e bk sc it σ S) fun d S1 => srcOf S1 d) := i_val Gd I
  have eqn : ∀ {a b : EvT}, True := fun {_ _} => trivial
  cases it with
  | Call f as ks pos =>
    cases f with
    | Name x p =>
      cases ks with
      | nil =>
        cases hf : free1 C.P sc x with
        | false =>
          have e : evSrc C ih bk sc tg (.Call (.Name x p) as [] pos) = fun σ S => bnd (ih.e bk sc (.Call (.Name x p) as [] pos) σ S) fun d S1 => srcOf S1 d := by
            funext σ S
            simp only [evSrc, hf]
          rw [e]
          exact dflt
        | true =>
          have hg := free1_glo hf
          cases h1 : eqS x "range" with
          | true =>
            obtain rfl := eqS_iff.mp h1
            refine PI.imp (i_rng (cl := cl) (p := p) (pos := pos) Gd F (no.star bk sc) I (as := as) hg) fun σ H R q => ?_
            obtain ⟨ρ, σd, S, src, S1, M, e, q⟩ := q
            refine ⟨ρ, σd, S, src, S1, M, ?_, q⟩
            rw [← e]
            simp only [evSrc, hf, h1]
            rfl
          | false =>
            cases h2 : eqS x "zip" with
            | true =>
              obtain rfl := eqS_iff.mp h2
              refine PI.imp (i_zip (cl := cl) (p := p) (pos := pos) Gd F (no.star bk sc) I (as := as) hg) fun σ H R q => ?_
              obtain ⟨ρ, σd, S, src, S1, M, e, q⟩ := q
              refine ⟨ρ, σd, S, src, S1, M, ?_, q⟩
              rw [← e]
              simp only [evSrc, hf, h1, h2]
              rfl
            | false =>
              cases h3 : eqS x "enumerate" with
              | true =>
                obtain rfl := eqS_iff.mp h3
                refine PI.imp (i_enm (cl := cl) (p := p) (pos := pos) Gd F (no.star bk sc) I (as := as) hg) fun σ H R q => ?_
                obtain ⟨ρ, σd, S, src, S1, M, e, q⟩ := q
                refine ⟨ρ, σd, S, src, S1, M, ?_, q⟩
                rw [← e]
                simp only [evSrc, hf, h1, h2, h3]
                rfl
              | false =>
                have e : evSrc C ih bk sc tg (.Call (.Name x p) as [] pos) = fun σ S => bnd (ih.e bk sc (.Call (.Name x p) as [] pos) σ S) fun d S1 => srcOf S1 d := by
                  funext σ S
                  simp only [evSrc, hf, h1, h2, h3]
                rw [e]
                exact dflt
      | cons _ _ => exact dflt
    | _ => exact dflt
  | _ => exact dflt
theorem folded_set {e : Expr} {env : Env} (h : ∀ es j p, e ≠ .Set es j p) (x : Value) : foldedSetIterable e env x = pure x := by
  cases e <;> first | rfl | exact absurd rfl (h _ _ _)
theorem src_set (no : IhNo ih) {tg : Expr} {es : List Expr} {j : Nat} {p : Pos} {σ : Env1} {S : Sto} : evSrc C ih bk sc tg (.Set es j p) σ S = none := by
  simp only [evSrc, no.set]
  rfl
theorem srcOf_weak {S S1 : Sto} {d : D} {src : Src} (h : srcOf S d = some (src, S1)) : src.weak = false := by
  unfold srcOf at h
  cases d with
  | tup _ => cases h; rfl
  | str _ => cases h; rfl
  | loc n =>
    obtain ⟨o, _, h⟩ := opt_some h
    cases o with
    | lst _ => cases h; rfl
    | dct kvs =>
      cases kvs with
      | nil => cases h
      | cons _ _ =>
        obtain ⟨_, h⟩ := grd_some h
        cases h
        rfl
    | _ => cases h
  | _ => cases h
theorem src_weak {tg it : Expr} {σ : Env1} {S S1 : Sto} {src : Src} (h : evSrc C ih bk sc tg it σ S = some (src, S1)) (hw : src.weak = true) : isTupE tg = true := by
  have dflt : (bnd (ih.e bk sc it σ S) fun d S1 => srcOf S1 d) = some (src, S1) → False := fun h => by
    obtain ⟨d, Sa, _, h⟩ := bnd_some h
    rw [srcOf_weak h] at hw
    cases hw
  unfold evSrc at h
  split at h
  · split at h
    · split at h
      · obtain ⟨ds, Sa, _, h⟩ := bnd_some h
        split at h
        · obtain ⟨n, _, h⟩ := opt_some h
          obtain ⟨_, h⟩ := grd_some h
          cases h
          cases hw
        · obtain ⟨n, _, h⟩ := opt_some h
          obtain ⟨m, _, h⟩ := opt_some h
          obtain ⟨_, h⟩ := grd_some h
          cases h
          cases hw
        · cases h
      · split at h
        · exact (grd_some h).1
        · split at h
          · exact (grd_some h).1
          · exact (dflt h).elim
    · exact (dflt h).elim
  · exact (dflt h).elim
/-! ### the readings of comprehensions -/
abbrev tgG (g : G) (C : Cx1) (sc : Scope) (tg : Expr) : TG := tGw g C sc cl0 (tgNs tg) (isTupE tg) fun d σ S => asgT C sc S 20 tg d σ
theorem rd_lc (Gd : Good g C X bk sc0 cl k) {tg it el : Expr} {ifs : List Expr} {σ : L2.St} {H : Hp} {Q : VK} (h : tE g cl (fun σ S => evLc C ih bk sc0 sc [⟨tg, it, ifs, 0⟩] (.lst []) (lcOne ih sc el) σ S) σ H Q) :
    tLc (tI g cl (evSrc C ih bk sc0 tg it)) (tgG g C sc tg) (tT g cl0 (tsts ih true sc ifs)) (tE g cl0 (ih.e true sc el)) ((ownIx C.N sc).map (·.2)) σ H Q := by
  obtain ⟨ρ, σd, S, d, Sf, M, e, q⟩ := h
  obtain ⟨hb, e⟩ := grd_some e
  obtain ⟨src, S1, e1, e⟩ := bnd_some e
  obtain ⟨hf, e⟩ := grd_some e
  obtain ⟨S2, e2, e⟩ := opt_some e
  cases e
  rw [own_ix]
  refine ⟨ρ, σd, S, src, S1, M, e1, fun ρ1 H1 J p1 l1 M1 ok D hD => ?_⟩
  obtain ⟨ok', M'⟩ := lc_start hb Gd.lamB M1 ok hf hD (o := .lst []) (ob := .lst []) ⟨[], upd_same, rfl⟩
  refine ⟨LcW g C ih sc tg ifs src (lcOne ih sc el S1.length) (ρ1 ++ [D]) (upd H1 D (.lst [])) _ _ Sf, ⟨5000, _, _, Pre.refl _, Le.refl _, M', e2⟩, fun i m H w => ?_⟩
  exact lc_turn (sc := sc) (EL := fun σ2 H Nx => tE g cl0 (ih.e true sc el) σ2 H fun y H4 => ∃ acc, H4 D = some (.lst acc) ∧ acc.length < sizeLine ∧ Nx (upd H4 D (.lst (acc ++ [y])))) (WW := fun σ2 => wipe σ2 (ixs C.N (compSc sc)) = wipe σ (ixs C.N (compSc sc)))
    ok' (src_weak e1) rfl (fun σ2 K2 => by rw [wipe_kept Gd.nd (fun x _ h => loc_comp h) (comp_ix hb) K2, wipe_twice])
    (fun ρ S S' H σ2d σ2 Nx hp hl M e nx => el_lst M1.rel.len ρ S S' H σ2d σ2 Nx hp hl M e nx)
    (fun ρ H hp hl R => lc_end M1 hD hp hl R fun ρ' H' v pp ll MM dd => q ρ' H' v (p1.trans pp) (l1.trans ll) MM dd) i m H w
theorem rd_lc2 (Gd : Good g C X bk sc0 cl k) {tg it tg1 it1 el : Expr} {ifs ifs1 : List Expr} {σ : L2.St} {H : Hp} {Q : VK} (h : tE g cl (fun σ S => evLc C ih bk sc0 sc [⟨tg, it, ifs, 0⟩, ⟨tg1, it1, ifs1, 0⟩] (.lst []) (lcOne ih sc el) σ S) σ H Q) :
    tLc2 (tI g cl (evSrc C ih bk sc0 tg it)) (tgG g C sc tg) (tT g cl0 (tsts ih true sc ifs)) (tI g cl0 (evSrc C ih true sc tg1 it1)) (tgG g C sc tg1) (tT g cl0 (tsts ih true sc ifs1)) (tE g cl0 (ih.e true sc el)) ((ownIx C.N sc).map (·.2)) (ixs C.N (tgOwn sc tg1)) σ H Q := by
  obtain ⟨ρ, σd, S, d, Sf, M, e, q⟩ := h
  obtain ⟨hb, e⟩ := grd_some e
  obtain ⟨_, e⟩ := grd_some e
  obtain ⟨src, S1, e1, e⟩ := bnd_some e
  obtain ⟨hf, e⟩ := grd_some e
  obtain ⟨S2, e2, e⟩ := opt_some e
  cases e
  rw [own_ix]
  refine ⟨ρ, σd, S, src, S1, M, e1, fun ρ1 H1 J p1 l1 M1 ok D hD => ?_⟩
  obtain ⟨ok', M'⟩ := lc_start hb Gd.lamB M1 ok hf hD (o := .lst []) (ob := .lst []) ⟨[], upd_same, rfl⟩
  refine ⟨LcW g C ih sc tg ifs src _ (ρ1 ++ [D]) (upd H1 D (.lst [])) _ _ Sf, ⟨5000, _, _, Pre.refl _, Le.refl _, M', e2⟩, fun i m H w => ?_⟩
  refine lc_turn (sc := sc) (EL := fun σ2 H Nx => tI g cl0 (evSrc C ih true sc tg1 it1) σ2 H fun J1 H4 => ∃ W1 : Nat → Nat → Hp → Prop, (∃ m, W1 0 m H4) ∧ ∀ j k H, W1 j k H →
      (J1.stop j H ∧ Nx H) ∨ (J1.go j H ∧ ∃ Nx1 : Hp → Prop, (∀ H', Nx1 H' → ∃ k', k' < k ∧ W1 (j + 1) k' H') ∧ ∀ x H', J1.yld j H x H' → tgG g C sc tg1 x (wipe σ2 (ixs C.N (tgOwn sc tg1))) H' fun σ3 H5 => wipe σ3 (ixs C.N (tgOwn sc tg1)) = wipe σ2 (ixs C.N (tgOwn sc tg1)) ∧ tT g cl0 (tsts ih true sc ifs1) σ3 H5 fun b H6 =>
        if b = true then tE g cl0 (ih.e true sc el) σ3 H6 fun y H7 => ∃ acc, H7 D = some (.lst acc) ∧ acc.length < sizeLine ∧ Nx1 (upd H7 D (.lst (acc ++ [y]))) else Nx1 H6)) (WW := fun σ2 => wipe σ2 (ixs C.N (compSc sc)) = wipe σ (ixs C.N (compSc sc)))
    ok' (src_weak e1) rfl (fun σ2 K2 => by rw [wipe_kept Gd.nd (fun x _ h => loc_comp h) (comp_ix hb) K2, wipe_twice])
    (fun ρ S S' H σ2d σ2 Nx hp hl M e nx => ?_)
    (fun ρ H hp hl R => lc_end M1 hD hp hl R fun ρ' H' v pp ll MM dd => q ρ' H' v (p1.trans pp) (l1.trans ll) MM dd) i m H w
  obtain ⟨src1, S3, e3, e4⟩ := bnd_some e
  refine ⟨ρ, σ2d, S, src1, S3, M, e3, fun ρ4 H4 J1 p4 l4 M4 ok4 => ?_⟩
  have ix1 : ∀ x ∈ tgOwn sc tg1, ∃ i, findIx x C.N 0 = some i := fun x hx => comp_ix hb x (tgOwn_sub x hx)
  have M5 : Sim g bot ρ4 S3 H4 (wipeN C.N (tgOwn sc tg1) σ2d) (wipe σ2 (ixs C.N (tgOwn sc tg1))) := ⟨M4.rel, wipe_env _ ix1 M4.env⟩
  refine ⟨LcW g C ih sc tg1 ifs1 src1 (lcOne ih sc el S1.length) ρ4 H4 _ _ S', ⟨5000, _, _, Pre.refl _, Le.refl _, M5, e4⟩, fun j k H w => ?_⟩
  exact lc_turn (sc := sc) (EL := fun σ2 H Nx => tE g cl0 (ih.e true sc el) σ2 H fun y H4 => ∃ acc, H4 D = some (.lst acc) ∧ acc.length < sizeLine ∧ Nx (upd H4 D (.lst (acc ++ [y])))) (WW := fun σ3 => wipe σ3 (ixs C.N (tgOwn sc tg1)) = wipe σ2 (ixs C.N (tgOwn sc tg1)))
    ok4 (src_weak e3) rfl (fun σ3 K3 => by rw [wipe_kept (xs := tgOwn sc tg1) Gd.nd (fun x h1 h2 => List.mem_filter.mpr ⟨h1, h2⟩) ix1 K3, wipe_twice])
    (fun ρ S S' H σ2d σ2 Nx hp' hl' M e nx => el_lst M1.rel.len ρ S S' H σ2d σ2 Nx ((hp.trans p4).trans hp') hl' M e nx)
    (fun ρ H hp' hl' R => nx ρ H (p4.trans hp') (l4.trans hl') R) j k H w
theorem rd_dc (Gd : Good g C X bk sc0 cl k) {tg it kx vx : Expr} {ifs : List Expr} {σ : L2.St} {H : Hp} {Q : VK} (h : tE g cl (fun σ S => evLc C ih bk sc0 sc [⟨tg, it, ifs, 0⟩] (.dct []) (lcPair ih sc kx vx) σ S) σ H Q) :
    tDc (tI g cl (evSrc C ih bk sc0 tg it)) (tgG g C sc tg) (tT g cl0 (tsts ih true sc ifs)) (tE g cl0 (ih.e true sc kx)) (tE g cl0 (ih.e true sc vx)) ((ownIx C.N sc).map (·.2)) σ H Q := by
  obtain ⟨ρ, σd, S, d, Sf, M, e, q⟩ := h
  obtain ⟨hb, e⟩ := grd_some e
  obtain ⟨src, S1, e1, e⟩ := bnd_some e
  obtain ⟨hf, e⟩ := grd_some e
  obtain ⟨S2, e2, e⟩ := opt_some e
  cases e
  rw [own_ix]
  refine ⟨ρ, σd, S, src, S1, M, e1, fun ρ1 H1 J p1 l1 M1 ok D hD => ?_⟩
  obtain ⟨ok', M'⟩ := lc_start hb Gd.lamB M1 ok hf hD (o := .dK []) (ob := .dct []) (.inl ⟨rfl, [], upd_same, by simp, rfl⟩)
  refine ⟨LcW g C ih sc tg ifs src (lcPair ih sc kx vx S1.length) (ρ1 ++ [D]) (upd H1 D (.dK [])) _ _ Sf, ⟨5000, _, _, Pre.refl _, Le.refl _, M', e2⟩, fun i m H w => ?_⟩
  refine lc_turn (sc := sc) (EL := fun σ2 H Nx => tE g cl0 (ih.e true sc kx) σ2 H fun y H4 => tE g cl0 (ih.e true sc vx) σ2 H4 fun z H5 => ∃ kvs k, y = kV k ∧ H5 D = some (.dK kvs) ∧ kvs.length < sizeLine ∧ Nx (upd H5 D (.dK (putK kvs k z)))) (WW := fun σ2 => wipe σ2 (ixs C.N (compSc sc)) = wipe σ (ixs C.N (compSc sc)))
    ok' (src_weak e1) rfl (fun σ2 K2 => by rw [wipe_kept Gd.nd (fun x _ h => loc_comp h) (comp_ix hb) K2, wipe_twice])
    (fun ρ S S' H σ2d σ2 Nx hp hl M e nx => ?_)
    (fun ρ H hp hl R => lc_end M1 hD hp hl R fun ρ' H' v pp ll MM dd => q ρ' H' v (p1.trans pp) (l1.trans ll) MM dd) i m H w
  obtain ⟨d, Sa, e3, e⟩ := bnd_some e
  obtain ⟨x, Sb, e4, e⟩ := bnd_some e
  obtain ⟨e5, e⟩ := grd_some e
  obtain ⟨o, e6, e⟩ := opt_some e
  rw [nth_eq] at e6
  cases o with
  | dct acc =>
    obtain ⟨q', e7, e⟩ := opt_some e
    obtain ⟨e8, e⟩ := grd_some e
    cases e
    refine ⟨ρ, σ2d, S, d, Sa, M, e3, fun ρ4 H4 y p4 l4 M4 d4 => ⟨ρ4, σ2d, Sa, x, Sb, M4, e4, fun ρ5 H5 z p5 l5 M5 d5 => ?_⟩⟩
    obtain ⟨a, h1, h2⟩ := M5.rel.addr e6
    have ea := atD M1.rel.len ((hp.trans p4).trans p5) h1
    subst ea
    obtain ⟨kk, hk⟩ := isKey_keyD e5
    obtain ⟨e9, e7⟩ := grd_some (show grd (okKey acc d) (dPut d x acc) = some q' from e7)
    have hh : headD isKeyD acc = true := by
      unfold okKey at e9
      rw [e5] at e9
      exact e9
    obtain ⟨ks, h3, h4, h5⟩ := dk_first h2 hh
    obtain ⟨i1, i2, i3, i4⟩ := KvR.put hk d5 h4 h5 e7
    have lw : Le H5 (upd H5 a (.dK (putK ks kk z))) := le_write h3 trivial
    have hsm := small_le e8
    have hlen : ks.length < sizeLine := by
      have h := h5.length
      have h6 : acc.length ≤ q'.length := by
        have all : ∀ {kvs q : List (D × D)}, dPut d x kvs = some q → kvs.length ≤ q.length := by
          intro kvs
          induction kvs with
          | nil => intro q _; exact Nat.zero_le _
          | cons p r ihl =>
            intro q e
            obtain ⟨c, f1, f2⟩ := opt_some (show opt (eqD p.1 d) (fun b => match b with | true => some ((p.1, x) :: r) | false => opt (dPut d x r) fun q => some (p :: q)) = some q from e)
            cases c with
            | true => cases f2; exact Nat.le_refl _
            | false =>
              obtain ⟨q2, f3, f4⟩ := opt_some f2
              cases f4
              exact Nat.succ_le_succ (ihl f3)
        exact all e7
      exact line16' (by omega)
    refine ⟨ks, kk, DV.key hk (d4.mono p5 l5 fun _ _ z => z), h3, hlen, nx ρ5 _ (p4.trans p5) ((l4.trans l5).trans lw) ?_⟩
    rw [setN_eq]
    exact M5.rel.set h1 h3 trivial (.inl ⟨i3 hh, _, upd_same, (putK_keys kk z ks h4).1, i1.mono (Pre.refl _) lw fun _ _ z => z⟩)
  | _ => cases e
end
end K76
end

/-! text Cmp -/
section
namespace K76
open PySem PySem.Spec PyProof.Rows L2
section
variable {g : G} {C : Cx1} {X : Cx} {bk : Bool} {sc sc0 : Scope} {cl : ClF} {k : Nat} {ih : Ih}
theorem lc_cases (gs : List Comprehension) : (∃ tg it ifs, gs = [⟨tg, it, ifs, 0⟩]) ∨ (∃ tg it ifs tg1 it1 ifs1, gs = [⟨tg, it, ifs, 0⟩, ⟨tg1, it1, ifs1, 0⟩]) ∨ (∀ (bk : Bool) (sc0 sc : Scope) (ob : OD) (f : Nat → Env1 → Sto → Option Sto) (σ : Env1) (S : Sto), evLc C ih bk sc0 sc gs ob f σ S = none) := by
  by_cases h1 : ∃ tg it ifs, gs = [⟨tg, it, ifs, 0⟩]
  · exact .inl h1
  · by_cases h2 : ∃ tg it ifs tg1 it1 ifs1, gs = [⟨tg, it, ifs, 0⟩, ⟨tg1, it1, ifs1, 0⟩]
    · exact .inr (.inl h2)
    · refine .inr (.inr fun bk sc0 sc ob f σ S => ?_)
      unfold evLc
      cases blkChk C.N sc0 sc with
      | false => rfl
      | true =>
        show (match gs with
          | [⟨tg, it, ifs, 0⟩] => _
          | [⟨tg, it, ifs, 0⟩, ⟨tg1, it1, ifs1, 0⟩] => _
          | _ => none) = none
        split
        · exact absurd ⟨_, _, _, rfl⟩ h1
        · exact absurd ⟨_, _, _, _, _, _, rfl⟩ h2
        · rfl
theorem blk_none (h : blkChk C.N sc0 sc = false) (gs : List Comprehension) (ob : OD) (f : Nat → Env1 → Sto → Option Sto) (σ : Env1) (S : Sto) : evLc C ih bk sc0 sc gs ob f σ S = none := by
  unfold evLc
  rw [h]
  rfl
theorem set_none1 (no : IhNo ih) {tg : Expr} {es : List Expr} {j : Nat} {p : Pos} {ifs : List Expr} (ob : OD) (f : Nat → Env1 → Sto → Option Sto) (σ : Env1) (S : Sto) : evLc C ih bk sc0 sc [⟨tg, .Set es j p, ifs, 0⟩] ob f σ S = none := by
  unfold evLc
  cases blkChk C.N sc0 sc with
  | false => rfl
  | true =>
    simp only [src_set no]
    rfl
theorem set_none2 (no : IhNo ih) {tg tg1 it1 : Expr} {es : List Expr} {j : Nat} {p : Pos} {ifs ifs1 : List Expr} (ob : OD) (f : Nat → Env1 → Sto → Option Sto) (σ : Env1) (S : Sto) : evLc C ih bk sc0 sc [⟨tg, .Set es j p, ifs, 0⟩, ⟨tg1, it1, ifs1, 0⟩] ob f σ S = none := by
  unfold evLc
  cases blkChk C.N sc0 sc with
  | false => rfl
  | true =>
    simp only [src_set no]
    cases isSetE it1 <;> rfl
theorem set_none3 {tg tg1 it : Expr} {es : List Expr} {j : Nat} {p : Pos} {ifs ifs1 : List Expr} (ob : OD) (f : Nat → Env1 → Sto → Option Sto) (σ : Env1) (S : Sto) : evLc C ih bk sc0 sc [⟨tg, it, ifs, 0⟩, ⟨tg1, .Set es j p, ifs1, 0⟩] ob f σ S = none := by
  unfold evLc
  cases blkChk C.N sc0 sc with
  | false => rfl
  | true => rfl
theorem tE_none {f : EvT} (h : ∀ σ S, f σ S = none) {σ : L2.St} {H : Hp} {Q : VK} (q : tE g cl f σ H Q) : False := by
  obtain ⟨ρ, σd, S, d, S1, M, e, _⟩ := q
  rw [h] at e
  cases e
/-- the pieces of a block -/
structure Pcs (g : G) (C : Cx1) (ih : Ih) (X : Cx) (sc : Scope) (tg : Expr) (ifs : List Expr) : Prop where
  pg : ∀ (s : Shared) (H : Hp) (Ca : Addr) (cs : List (Str × Addr)) (fp : List Addr), PG (X.blk s H sc (compEnvC sc cs Ca X.env) fp) tg (tgG g C sc tg)
  pt : ∀ (s : Shared) (H : Hp) (Ca : Addr) (cs : List (Str × Addr)) (fp : List Addr), PTs (X.blk s H sc (compEnvC sc cs Ca X.env) fp) ifs (tT g cl0 (tsts ih true sc ifs))
theorem pcs (Gd : Good g C X bk sc0 cl k) (A : IhAll g C k ih) (tg : Expr) (ifs : List Expr) : Pcs g C ih X sc tg ifs :=
  ⟨fun s H Ca cs fp => g_asgW (Gd.blk s H Ca cs fp) up0 tg, fun s H Ca cs fp => t_tsts (A.e _ _ _ _ (Gd.blk s H Ca cs fp)) ifs⟩
theorem pc_e (Gd : Good g C X bk sc0 cl k) (A : IhAll g C k ih) (e : Expr) : ∀ (s : Shared) (H : Hp) (Ca : Addr) (cs : List (Str × Addr)) (fp : List Addr), PE (X.blk s H sc (compEnvC sc cs Ca X.env) fp) e (tE g cl0 (ih.e true sc e)) :=
  fun s H Ca cs fp => (A.e _ _ _ _ (Gd.blk s H Ca cs fp)).e e
theorem ix_own (N : List Str) (sc : Scope) (tg : Expr) : ∀ i ∈ ixs N (tgOwn sc tg), i ∈ (ownIx N sc).map (·.2) := fun i hi => by
  rw [own_ix]
  obtain ⟨x, hx, rfl⟩ := List.mem_map.mp hi
  exact List.mem_map.mpr ⟨x, tgOwn_sub x hx, rfl⟩
theorem hsE {it : Expr} {env : Env} (h : ¬ ∃ es j p, it = .Set es j p) : ∀ x, foldedSetIterable it env x = pure x := fun x => folded_set (fun es j p z => h ⟨es, j, p, z⟩) x
theorem e_lc (Gd : Good g C X bk sc0 cl k) (F : Facts g C.P) (no : IhNo ih) (A : IhAll g C k ih) {el : Expr} {gs : List Comprehension} {pos : Pos} : PE X (.ListComp el gs sc pos) (tE g cl fun σ S => evLc C ih bk sc0 sc gs (.lst []) (lcOne ih sc el) σ S) := by
  have I := A.e X bk sc0 cl Gd
  have nv : (∀ σ S, evLc C ih bk sc0 sc gs (.lst []) (lcOne ih sc el) σ S = none) → PE X (.ListComp el gs sc pos) (tE g cl fun σ S => evLc C ih bk sc0 sc gs (.lst []) (lcOne ih sc el) σ S) := fun h => PE.imp never_e fun σ H Q q => tE_none h q
  cases hb : blkChk C.N sc0 sc with
  | false => exact nv fun σ S => blk_none hb _ _ _ _ _
  | true =>
    have ok := blkOk_of Gd hb
    rcases lc_cases (C := C) (ih := ih) gs with ⟨tg, it, ifs, rfl⟩ | ⟨tg, it, ifs, tg1, it1, ifs1, rfl⟩ | h
    · by_cases hs : ∃ es j p, it = .Set es j p
      · obtain ⟨es, j, p, rfl⟩ := hs
        exact nv fun σ S => set_none1 no _ _ _ _
      · exact PE.imp (pe_lc Gd.calm (by rw [Gd.N]; exact Gd.nd) (i_src Gd F no I tg it) ok (pcs Gd A tg ifs).pg (pcs Gd A tg ifs).pt (pc_e Gd A el) (hsE hs)) fun σ H Q q => rd_lc Gd q
    · by_cases hs : ∃ es j p, it = .Set es j p
      · obtain ⟨es, j, p, rfl⟩ := hs
        exact nv fun σ S => set_none2 no _ _ _ _
      · by_cases hs1 : ∃ es j p, it1 = .Set es j p
        · obtain ⟨es, j, p, rfl⟩ := hs1
          exact nv fun σ S => set_none3 _ _ _ _
        · exact PE.imp (pe_lc2 Gd.calm (by rw [Gd.N]; exact Gd.nd) (i_src Gd F no I tg it) ok (ix_own C.N sc tg1) (pcs Gd A tg ifs).pg (pcs Gd A tg ifs).pt (fun s H Ca cs fp => i_src (Gd.blk s H Ca cs fp) F no (A.e _ _ _ _ (Gd.blk s H Ca cs fp)) tg1 it1) (pcs Gd A tg1 ifs1).pg (pcs Gd A tg1 ifs1).pt (pc_e Gd A el) (hsE hs) (fun env x => folded_set (fun es j p z => hs1 ⟨es, j, p, z⟩) x)) fun σ H Q q => rd_lc2 Gd q
    · exact nv fun σ S => h _ _ _ _ _ _ _
theorem e_dc (Gd : Good g C X bk sc0 cl k) (F : Facts g C.P) (no : IhNo ih) (A : IhAll g C k ih) {kx vx : Expr} {gs : List Comprehension} {pos : Pos} (h2 : ∀ tg it ifs tg1 it1 ifs1, gs ≠ [⟨tg, it, ifs, 0⟩, ⟨tg1, it1, ifs1, 0⟩]) :
    PE X (.DictComp kx vx gs sc pos) (tE g cl fun σ S => evLc C ih bk sc0 sc gs (.dct []) (lcPair ih sc kx vx) σ S) := by
  have I := A.e X bk sc0 cl Gd
  have nv : (∀ σ S, evLc C ih bk sc0 sc gs (.dct []) (lcPair ih sc kx vx) σ S = none) → PE X (.DictComp kx vx gs sc pos) (tE g cl fun σ S => evLc C ih bk sc0 sc gs (.dct []) (lcPair ih sc kx vx) σ S) := fun h => PE.imp never_e fun σ H Q q => tE_none h q
  cases hb : blkChk C.N sc0 sc with
  | false => exact nv fun σ S => blk_none hb _ _ _ _ _
  | true =>
    have ok := blkOk_of Gd hb
    rcases lc_cases (C := C) (ih := ih) gs with ⟨tg, it, ifs, rfl⟩ | ⟨tg, it, ifs, tg1, it1, ifs1, rfl⟩ | h
    · by_cases hs : ∃ es j p, it = .Set es j p
      · obtain ⟨es, j, p, rfl⟩ := hs
        exact nv fun σ S => set_none1 no _ _ _ _
      · exact PE.imp (pe_dc Gd.calm (by rw [Gd.N]; exact Gd.nd) (i_src Gd F no I tg it) ok (pcs Gd A tg ifs).pg (pcs Gd A tg ifs).pt (pc_e Gd A kx) (pc_e Gd A vx) (hsE hs)) fun σ H Q q => rd_dc Gd q
    · exact absurd rfl (h2 _ _ _ _ _ _)
    · exact nv fun σ S => h _ _ _ _ _ _ _
/-! a comprehension whose object goes to a name at once -/
theorem s_setLc (Gd : Good g C X bk sc0 cl k) (F : Facts g C.P) (no : IhNo ih) (A : IhAll g C k ih) {el : Expr} {gs : List Comprehension} {pos py spos : Pos} {i : Nat} {y : Str} (hy : X.N[i]? = some y) (hyl : X.env.scope.names.lookup y = some .local)
    (hsw : swapsWith (.ListComp el gs sc pos) (some (.Name y py)) spos.line X.env = pure true) :
    PS X (.Assign [.Name y py] (.ListComp el gs sc pos) spos) (tAsg (tE g cl fun σ S => evLc C ih bk sc0 sc gs (.lst []) (lcOne ih sc el) σ S) (gName i)) := by
  have I := A.e X bk sc0 cl Gd
  have nv : (∀ σ S, evLc C ih bk sc0 sc gs (.lst []) (lcOne ih sc el) σ S = none) → PS X (.Assign [.Name y py] (.ListComp el gs sc pos) spos) (tAsg (tE g cl fun σ S => evLc C ih bk sc0 sc gs (.lst []) (lcOne ih sc el) σ S) (gName i)) := fun h => ⟨fun pins s σ H D I q => (tE_none h q).elim⟩
  have imp : ∀ {t : TE}, (∀ σ H Q, tE g cl (fun σ S => evLc C ih bk sc0 sc gs (.lst []) (lcOne ih sc el) σ S) σ H Q → t σ H Q) → PS X (.Assign [.Name y py] (.ListComp el gs sc pos) spos) (tAsg t (gName i)) → PS X (.Assign [.Name y py] (.ListComp el gs sc pos) spos) (tAsg (tE g cl fun σ S => evLc C ih bk sc0 sc gs (.lst []) (lcOne ih sc el) σ S) (gName i)) :=
    fun {t} h p => ⟨fun pins s σ H D I q => p.run pins s σ H D I (h _ _ _ q)⟩
  have nd : X.N.Nodup := by rw [Gd.N]; exact Gd.nd
  cases hb : blkChk C.N sc0 sc with
  | false => exact nv fun σ S => blk_none hb _ _ _ _ _
  | true =>
    have ok := blkOk_of Gd hb
    rcases lc_cases (C := C) (ih := ih) gs with ⟨tg, it, ifs, rfl⟩ | ⟨tg, it, ifs, tg1, it1, ifs1, rfl⟩ | h
    · by_cases hs : ∃ es j p, it = .Set es j p
      · obtain ⟨es, j, p, rfl⟩ := hs
        exact nv fun σ S => set_none1 no _ _ _ _
      · exact imp (fun σ H Q q => rd_lc Gd q) (ps_setLc Gd.calm nd hy hyl hsw (i_src Gd F no I tg it) ok (pcs Gd A tg ifs).pg (pcs Gd A tg ifs).pt (pc_e Gd A el) (hsE hs))
    · by_cases hs : ∃ es j p, it = .Set es j p
      · obtain ⟨es, j, p, rfl⟩ := hs
        exact nv fun σ S => set_none2 no _ _ _ _
      · by_cases hs1 : ∃ es j p, it1 = .Set es j p
        · obtain ⟨es, j, p, rfl⟩ := hs1
          exact nv fun σ S => set_none3 _ _ _ _
        · exact imp (fun σ H Q q => rd_lc2 Gd q) (ps_setLc2 Gd.calm nd hy hyl hsw (i_src Gd F no I tg it) ok (ix_own C.N sc tg1) (pcs Gd A tg ifs).pg (pcs Gd A tg ifs).pt (fun s H Ca cs fp => i_src (Gd.blk s H Ca cs fp) F no (A.e _ _ _ _ (Gd.blk s H Ca cs fp)) tg1 it1) (pcs Gd A tg1 ifs1).pg (pcs Gd A tg1 ifs1).pt (pc_e Gd A el) (hsE hs) (fun env x => folded_set (fun es j p z => hs1 ⟨es, j, p, z⟩) x))
    · exact nv fun σ S => h _ _ _ _ _ _ _
/-- a dict's -/
theorem ps_setDc {i : Nat} {y : Str} {py : Pos} {kx vx tg iter : Expr} {ifs : List Expr} {scope : Scope} {own : List (Str × Nat)} {pos spos : Pos} {wi : TI} {tgr : TG} {tt : TT} {tk tv : TE} (hc : X.calm = true) (hN : X.N.Nodup) (hy : X.N[i]? = some y) (hyl : X.env.scope.names.lookup y = some .local)
    (hsw : swapsWith (.DictComp kx vx [⟨tg, iter, ifs, 0⟩] scope pos) (some (.Name y py)) spos.line X.env = pure true) (hi : PI X tg iter wi) (ok : BlkOk X.N X.env.scope scope own)
    (hg : ∀ (s : Shared) (H : Hp) (Ca : Addr) (cs : List (Str × Addr)) (fp : List Addr), PG (X.blk s H scope (compEnvC scope cs Ca X.env) fp) tg tgr)
    (ht : ∀ (s : Shared) (H : Hp) (Ca : Addr) (cs : List (Str × Addr)) (fp : List Addr), PTs (X.blk s H scope (compEnvC scope cs Ca X.env) fp) ifs tt)
    (hk : ∀ (s : Shared) (H : Hp) (Ca : Addr) (cs : List (Str × Addr)) (fp : List Addr), PE (X.blk s H scope (compEnvC scope cs Ca X.env) fp) kx tk)
    (hv : ∀ (s : Shared) (H : Hp) (Ca : Addr) (cs : List (Str × Addr)) (fp : List Addr), PE (X.blk s H scope (compEnvC scope cs Ca X.env) fp) vx tv) (hs : ∀ x, foldedSetIterable iter X.env x = pure x) :
    PS X (.Assign [.Name y py] (.DictComp kx vx [⟨tg, iter, ifs, 0⟩] scope pos) spos) (tAsg (tDc wi tgr tt tk tv (own.map (·.2))) (gName i)) := by
  refine ⟨fun pins s σ H E I q => ?_⟩
  have q : tDc wi tgr tt tk tv (own.map (·.2)) σ H (fun x H1 => gName i x σ H1 E.nx) := q
  have core : wpAny (model X.prog X.w) X.A (evalThenUse (.DictComp kx vx [⟨tg, iter, ifs, 0⟩] scope pos) X.env (assign (.Name y py) X.env)) (fun _ s' => SP X pins E .next s') X.xe s := by
    refine wpAny_bind (thn (dc_core (Qf := fun _ s' => SP X pins E .next s') (use := some (assign (.Name y py) X.env)) hc hN I hi ok hg ht hk hv hs q fun L Ca s' m H' J z hn f => ?_) fun _ s' hq => wpAny_pure hq)
    obtain ⟨f0, f1, f2, f3, f4, f5⟩ := f
    show wpAny _ _ (assign (.Name y py) X.env (.ref L)) _ _ _
    refine wpAny_assign_Name (store_ok2 (v := V.ref L) J hN hy (.inl hyl) rfl (fun s2 J2 ⟨a, sb, ha⟩ => ?_) (.inr hyl))
    have ne : Ca ≠ a := fun e => ha.elim (fun z => f1 (e.trans z)) fun z => f4 y a z e.symm
    exact ⟨m, hn.sameBut sb ne, fun h3 sb3 => ⟨_, H', J2.turned (t' := s2.toks) (fun b o hb e => (sb3.2 b hb).trans e) f0 f1 f3 f4 f5, z⟩⟩
  rw [exec_Assign_Name_used _ _ _ _ hsw]
  exact wpAny_bind (wpAny_standAt (wpAny_bind (thn core fun _ s' hq => wpAny_pure hq)))
theorem s_setDc (Gd : Good g C X bk sc0 cl k) (F : Facts g C.P) (no : IhNo ih) (A : IhAll g C k ih) {kx vx : Expr} {gs : List Comprehension} {pos py spos : Pos} {i : Nat} {y : Str} (h2 : ∀ tg it ifs tg1 it1 ifs1, gs ≠ [⟨tg, it, ifs, 0⟩, ⟨tg1, it1, ifs1, 0⟩]) (hy : X.N[i]? = some y) (hyl : X.env.scope.names.lookup y = some .local)
    (hsw : swapsWith (.DictComp kx vx gs sc pos) (some (.Name y py)) spos.line X.env = pure true) :
    PS X (.Assign [.Name y py] (.DictComp kx vx gs sc pos) spos) (tAsg (tE g cl fun σ S => evLc C ih bk sc0 sc gs (.dct []) (lcPair ih sc kx vx) σ S) (gName i)) := by
  have I := A.e X bk sc0 cl Gd
  have nv : (∀ σ S, evLc C ih bk sc0 sc gs (.dct []) (lcPair ih sc kx vx) σ S = none) → PS X (.Assign [.Name y py] (.DictComp kx vx gs sc pos) spos) (tAsg (tE g cl fun σ S => evLc C ih bk sc0 sc gs (.dct []) (lcPair ih sc kx vx) σ S) (gName i)) := fun h => ⟨fun pins s σ H D I q => (tE_none h q).elim⟩
  cases hb : blkChk C.N sc0 sc with
  | false => exact nv fun σ S => blk_none hb _ _ _ _ _
  | true =>
    have ok := blkOk_of Gd hb
    rcases lc_cases (C := C) (ih := ih) gs with ⟨tg, it, ifs, rfl⟩ | ⟨tg, it, ifs, tg1, it1, ifs1, rfl⟩ | h
    · by_cases hs : ∃ es j p, it = .Set es j p
      · obtain ⟨es, j, p, rfl⟩ := hs
        exact nv fun σ S => set_none1 no _ _ _ _
      · have p := ps_setDc (spos := spos) Gd.calm (by rw [Gd.N]; exact Gd.nd) hy hyl hsw (i_src Gd F no I tg it) ok (pcs Gd A tg ifs).pg (pcs Gd A tg ifs).pt (pc_e Gd A kx) (pc_e Gd A vx) (hsE hs)
        exact ⟨fun pins s σ H D J q => p.run pins s σ H D J (rd_dc Gd q)⟩
    · exact absurd rfl (h2 _ _ _ _ _ _)
    · exact nv fun σ S => h _ _ _ _ _ _ _
end
end K76
end

/-! text Ops6 -/
section
namespace K76
open PySem PySem.Spec PyProof.Rows PySem.W L2
section
variable {prog : Program} {w : World} {A : Around} {E : Value → Shared → Prop} {s : Shared} {β : Type} {vs : List Value} {bs : List β} {enc : β → PyData} {R : Value → β → Prop}
/-- sorted(xs), xs a list or a tuple that reads as data -/
theorem sorted_seq {it : Addr} {T : String} {o : Obj} {n : Nat} {Q : Value → Shared → Prop} (hT : T = "list" ∨ T = "tuple") (ho : s.heap.get? it = some o) (hc : o.cls = .type T) (hd : o.data = .seq vs.toArray n)
    (e : EachIs R vs bs) (er : EachIs (fun v b => ∃ as, Reads s.heap v (enc b) as) vs bs) (hal : AllAlike (bs.map enc)) (hk : Sortable (bs.map enc)) (hL : bs.length ≤ sizeLine) (hu : ∀ b, b ∈ bs → A.units + 2 + (enc b).depth < cLine)
    (h : ∀ (h1 h2 : Heap) out c, (∀ b o, s.heap.get? b = some o → h1.get? b = some o) → (∀ b o, h1.get? b = some o → h2.get? b = some o) → h2.get? h1.objs.size = some (seqObj "list" (List.toArray out) c) → out.length = bs.length → EachIs R out (bs.mergeSort (dataLe false enc)) → Q (.ref h1.objs.size) { s with heap := h2 }) :
    wpAny (model prog w) A (call (.builtin "sorted") [.ref it]) Q E s := by
  have hv : vs.length ≤ sizeLine := by rw [e.length]; exact hL
  refine Calls.call_function_entry kind_sorted plain_sorted entry_sorted (args_sorted1 _) ?_
  unfold Builtin.«sorted»
  refine wpAny_bind (m := checkCount "sorted" 1 1 _) (wpAny_pure ?_)
  refine wpAny_bind (wpAny_collect_seq it hT ho hc hd (fun h1 k1 => ?_) (by simpa using hv))
  refine wpAny_bind (wpAny_newList ?_ (by simpa using hv))
  show wpAny _ _ _ _ _ { s with heap := h1.push (seqObj "list" vs.toArray 0) }
  have hat : (h1.push (seqObj "list" vs.toArray 0)).get? h1.objs.size = some (seqObj "list" vs.toArray 0) := Heap.get?_push_size _ rfl
  refine wpAny_bind (wpAny_holding (wpAny_call_entry slot_list_sort ⟨_, hat, rfl⟩ entry_list_sort ?_ (args_list_sort _)))
  have er' : EachIs (fun v b => ∃ as, Reads (sortingHeap (h1.push (seqObj "list" vs.toArray 0)) h1.objs.size vs) v (enc b) as) vs bs := er.mono fun _ _ ⟨as, r⟩ => ⟨as, PyProof.Rows.Reads.keeps (fun b o eb => sortingHeap_old (Nat.ne_of_lt (Heap.lt_size (k1 b o eb))) (Heap.get?_push_of_some _ (k1 b o eb))) r⟩
  have body := list_sort_vals (prog := prog) (w := w) (A := A.in1.in1) (E := fun e' s' => False) (P := fun f s' => f = .done (.ret .none) ∧ Q (.ref h1.objs.size) s') (s := { s with heap := h1.push (seqObj "list" vs.toArray 0) }) hat
    (SortsAt.data (s := { s with heap := sortingHeap (h1.push (seqObj "list" vs.toArray 0)) h1.objs.size vs }) (each_map (R := fun v d => ∃ as, Reads _ v d as) enc er') hal hk (bound_map hu)) hv ⟨rfl, ?_⟩
  · refine wpAny_mono body (fun f s' hf => ?_) fun _ _ e => e.elim
    obtain ⟨rfl, hq⟩ := hf
    exact ⟨_, rfl, wpAny_pure ⟨_, rfl, hq⟩⟩
  · obtain ⟨c, hc'⟩ := sortedHeap_at (out := (sortVals (dataKind (sortingHeap (h1.push (seqObj "list" vs.toArray 0)) h1.objs.size vs) (bs.map enc)) false vs vs).toArray) hat
    exact h h1 _ _ _ k1 (fun b o eb => by rw [sortedHeap_old (Nat.ne_of_lt (Heap.lt_size eb)) (by rw [Heap.size_push]; exact Nat.lt_succ_of_lt (Heap.lt_size eb))]; exact Heap.get?_push_of_some _ eb) hc' (by rw [sortVals_length false rfl]; exact e.length) (sortVals_data false e er' hal)
end
section
variable {g : G} {X : Cx} {k : Nat}
theorem alikeOk_iff {p : PyData} : ∀ {l : List PyData}, alikeOk p l = true → ∀ q ∈ l, PySem.W.alike p q = true ∧ PySem.W.alike q p = true
  | [], _, _, h => by cases h
  | x :: r, h, q, hq => by
    have h : (match PySem.W.alike p x && PySem.W.alike x p with | true => alikeOk p r | false => false) = true := h
    cases e : PySem.W.alike p x && PySem.W.alike x p with
    | false => rw [e] at h; cases h
    | true =>
      rw [e] at h
      rcases List.mem_cons.mp hq with rfl | hq
      · exact Bool.and_eq_true_iff.mp e
      · exact alikeOk_iff h q hq
theorem alikeB_all : ∀ {l : List PyData}, alikeB l = true → AllAlike l
  | [], _, d, hd, _, _ => by cases hd
  | x :: r, h, d, hd, d', hd' => by
    have h : (match PySem.W.alike x x && alikeOk x r with | true => alikeB r | false => false) = true := h
    cases e : PySem.W.alike x x && alikeOk x r with
    | false => rw [e] at h; cases h
    | true =>
      rw [e] at h
      obtain ⟨e1, e2⟩ := Bool.and_eq_true_iff.mp e
      rcases List.mem_cons.mp hd with e4 | hd
      · rw [e4]
        rcases List.mem_cons.mp hd' with e3 | hd'
        · rw [e3]
          exact e1
        · exact (alikeOk_iff e2 _ hd').1
      · rcases List.mem_cons.mp hd' with e3 | hd'
        · rw [e3]
          exact (alikeOk_iff e2 _ hd).2
        · exact alikeB_all h d hd d' hd'
theorem shapedL_at : ∀ {l : List PyData}, shapedL l = true → ∀ d ∈ l, SeqAt.shaped d = true
  | [], _, _, h => by cases h
  | x :: r, h, d, hd => by
    have h : (match SeqAt.shaped x with | true => shapedL r | false => false) = true := h
    cases e : SeqAt.shaped x with
    | false => rw [e] at h; cases h
    | true =>
      rw [e] at h
      rcases List.mem_cons.mp hd with rfl | hd
      · exact e
      · exact shapedL_at h d hd
theorem sortable_of {l : List PyData} (h : (l.all fullT || l.all plainP) = true) : Sortable l := by
  rcases Bool.or_eq_true_iff.mp h with h | h
  · refine .inl fun d hd => ?_
    have e := List.all_eq_true.mp h d hd
    unfold fullT at e
    split at e
    · exact ⟨_, _, rfl⟩
    · cases e
  · refine .inr fun d hd => ?_
    have e := List.all_eq_true.mp h d hd
    cases d <;> first | (cases e; done) | exact ⟨fun z => (by cases z), fun _ z => (by cases z)⟩
theorem toPs_len : ∀ {ds : List D} {ps : List PyData}, toPs ds = some ps → ds.length = ps.length
  | [], _, e => by cases e; rfl
  | d :: r, ps, e => by
    obtain ⟨p, e1, e2⟩ := opt_some (show opt (toP d) (fun p => opt (toPs r) fun q => some (p :: q)) = some ps from e)
    obtain ⟨q, e3, e4⟩ := opt_some e2
    cases e4
    rw [List.length_cons, List.length_cons, toPs_len e3]
theorem zip_snd {ds : List D} {ps : List PyData} (h : ds.length = ps.length) : (ds.zip ps).map (·.2) = ps := by
  rw [List.map_snd_zip]
  omega
/-- what a sorted item's value stands for -/
def SR (g : G) (ρ : List Addr) (H : Hp) (cl : Cl) (u : Value) (b : D × PyData) : Prop := ∃ x, RelV x u ∧ DV g ρ H cl b.1 x
theorem each_of {pins : List (Addr × Obj)} {σ : L2.St} {H : Hp} {s : Shared} {ρ : List Addr} {cl : Cl} (hK : X.K = g.K) (I : Inv X pins σ H s) : ∀ {ds : List D} {ps : List PyData} {vs : List V} {us : List Value}, toPs ds = some ps → DVs g ρ H cl ds vs → Vals vs us →
    EachIs (SR g ρ H cl) us (ds.zip ps) ∧ EachIs (fun u b => ∃ as, Reads s.heap u b.2 as) us (ds.zip ps)
  | [], ps, vs, us, e, h, r => by
    cases e
    have h : vs = [] := h
    subst h
    cases r
    exact ⟨.nil, .nil⟩
  | d :: dr, ps, vs, us, e, h, r => by
    obtain ⟨p, e1, e2⟩ := opt_some (show opt (toP d) (fun p => opt (toPs dr) fun q => some (p :: q)) = some ps from e)
    obtain ⟨q, e3, e4⟩ := opt_some e2
    cases e4
    obtain ⟨v, vr, rfl, h1, h2⟩ := h
    cases r with
    | cons r1 rr =>
      obtain ⟨i1, i2⟩ := each_of hK I e3 h2 rr
      refine ⟨.cons ⟨v, r1, h1⟩ i1, .cons ?_ i2⟩
      exact Dp.reads I p v _ (by rw [hK]; exact DV.dp d e1 h1) r1
theorem each_back {ρ : List Addr} {H : Hp} {cl : Cl} : ∀ {out : List Value} {bs : List (D × PyData)}, EachIs (SR g ρ H cl) out bs → ∃ ws, Vals ws out ∧ DVs g ρ H cl (bs.map (·.1)) ws
  | _, _, .nil => ⟨[], .nil, rfl⟩
  | _, _, .cons ⟨x, r, h⟩ t => by
    obtain ⟨ws, i1, i2⟩ := each_back t
    exact ⟨x :: ws, .cons r i1, x, ws, rfl, h, i2⟩
theorem fstL_eq : ∀ l : List (D × PyData), fstL l = l.map (·.1)
  | [] => rfl
  | p :: r => by
    rw [fstL, fstL_eq r]
    rfl
theorem sortC_some {ds q : List D} (h : sortC ds = some q) : ∃ ps, toPs ds = some ps ∧ AllAlike ps ∧ Sortable ps ∧ (∀ p ∈ ps, SeqAt.shaped p = true) ∧ ps.length < 5000 ∧ q = (((ds.zip ps).mergeSort (dataLe false (·.2))).map (·.1)) := by
  obtain ⟨ps, e1, e⟩ := opt_some h
  obtain ⟨e2, e⟩ := grd_some e
  cases e
  simp only [Bool.and_eq_true] at e2
  obtain ⟨⟨⟨a, b⟩, c⟩, d⟩ := e2
  exact ⟨ps, e1, alikeB_all a, sortable_of b, shapedL_at c, Nat.lt_of_succ_le (Nat.le_of_ble_eq_true d), fstL_eq _⟩
theorem in64_iff {i : Int} (h : in64 i = true) : 0 ≤ i ∧ i < 64 := by
  cases i with
  | ofNat k =>
    have := Nat.le_of_ble_eq_true h
    constructor
    · exact Int.natCast_nonneg k
    · show (k : Int) < 64
      omega
  | negSucc k => cases h
def pairL (p : Int × Int) : List Int := [p.1, p.2]
theorem pairD_some {d : D} {p : Int × Int} (h : pairD d = some p) : d = .tup [.int p.1, .int p.2] ∧ (0 ≤ p.1 ∧ p.1 < 64) ∧ (0 ≤ p.2 ∧ p.2 < 64) := by
  unfold pairD at h
  split at h
  · obtain ⟨e, h⟩ := grd_some h
    cases h
    obtain ⟨e1, e2⟩ := Bool.and_eq_true_iff.mp e
    exact ⟨rfl, in64_iff e1, in64_iff e2⟩
  · cases h
theorem pairs_some : ∀ {ds : List D} {ps : List (Int × Int)}, allOf pairD ds = some ps → allOf intsD ds = some (ps.map pairL) ∧ ∀ p ∈ ps, (0 ≤ p.1 ∧ p.1 < 64) ∧ (0 ≤ p.2 ∧ p.2 < 64)
  | [], ps, h => by
    cases h
    exact ⟨rfl, fun p hp => by cases hp⟩
  | d :: r, ps, h => by
    obtain ⟨p, e1, h⟩ := opt_some (show opt (pairD d) (fun a => opt (allOf pairD r) fun q => some (a :: q)) = some ps from h)
    obtain ⟨q, e2, h⟩ := opt_some h
    cases h
    obtain ⟨i1, i2⟩ := pairs_some e2
    obtain ⟨rfl, j1⟩ := pairD_some e1
    refine ⟨?_, fun x hx => ?_⟩
    · show opt (intsD (.tup [.int p.1, .int p.2])) (fun a => opt (allOf intsD r) fun q => some (a :: q)) = _
      rw [i1]
      rfl
    · rcases List.mem_cons.mp hx with rfl | hx
      · exact j1
      · exact i2 x hx
theorem pair_inj {p q : Int × Int} (hp : (0 ≤ p.1 ∧ p.1 < 64) ∧ (0 ≤ p.2 ∧ p.2 < 64)) (hq : (0 ≤ q.1 ∧ q.1 < 64) ∧ (0 ≤ q.2 ∧ q.2 < 64)) (h : p.1 * 64 + p.2 = q.1 * 64 + q.2) : p = q := by
  obtain ⟨a, b⟩ := p
  obtain ⟨c, d⟩ := q
  simp only [Prod.mk.injEq]
  simp only at hp hq h
  omega
theorem leP_sort (ps : List (Int × Int)) : (ps.mergeSort leP).Pairwise fun p q => p.1 * 64 + p.2 ≤ q.1 * 64 + q.2 := by
  have h := List.pairwise_mergeSort (le := leP) (fun a b c h1 h2 => by
    have h1 := of_decide_eq_true h1
    have h2 := of_decide_eq_true h2
    exact decide_eq_true (Int.le_trans h1 h2)) (fun a b => by
    rw [Bool.or_eq_true]
    rcases Int.le_total (a.1 * 64 + a.2) (b.1 * 64 + b.2) with h | h
    · exact .inl (decide_eq_true h)
    · exact .inr (decide_eq_true h)) ps
  exact h.imp fun h => of_decide_eq_true h
theorem sorted_rows {ps : List (Int × Int)} {L' : List (Addr × List Int)} (hb : ∀ p ∈ ps, (0 ≤ p.1 ∧ p.1 < 64) ∧ (0 ≤ p.2 ∧ p.2 < 64)) (hp : (L'.map (·.2)).Perm (ps.map pairL)) (hs : L'.Pairwise fun q r => TS.code 64 q.2 ≤ TS.code 64 r.2) :
    L'.map (·.2) = (ps.mergeSort leP).map pairL := by
  have pm : (ps.mergeSort leP).Perm ps := List.mergeSort_perm _ _
  have mem : ∀ x ∈ L'.map (·.2), ∃ p ∈ ps, x = pairL p := fun x hx => by
    obtain ⟨p, h1, h2⟩ := List.mem_map.mp (hp.mem_iff.mp hx)
    exact ⟨p, h1, h2.symm⟩
  refine List.Perm.eq_of_pairwise (le := fun a b => TS.code 64 a ≤ TS.code 64 b) (fun a b ha hb' h1 h2 => ?_) (List.pairwise_map.mpr hs) ?_ (hp.trans (pm.map _).symm)
  · obtain ⟨p, hp1, rfl⟩ := mem a ha
    obtain ⟨q, hq1, rfl⟩ := List.mem_map.mp hb'
    have hq1 := pm.mem_iff.mp hq1
    have e : TS.code 64 (pairL p) = TS.code 64 (pairL q) := Int.le_antisymm h1 h2
    rw [pairL, pairL, L2.code_pair, L2.code_pair] at e
    rw [pair_inj (hb p hp1) (hb q hq1) e]
  · rw [List.pairwise_map]
    refine (leP_sort ps).imp fun {p q} h => ?_
    rw [pairL, pairL, L2.code_pair, L2.code_pair]
    exact h
theorem rows_dv {ρ : List Addr} {H : Hp} {cl : Cl} : ∀ {L : List (Addr × List Int)} {ps : List (Int × Int)}, L.map (·.2) = ps.map pairL → (∀ p ∈ L, SqS g.K H p.1 (p.2.map V.int)) → DVs g ρ H cl (ps.map fun p => .tup [.int p.1, .int p.2]) (L.map fun q => V.ref q.1)
  | [], ps, e, _ => by
    cases ps with
    | nil => rfl
    | cons _ _ => cases e
  | q :: L, ps, e, h => by
    cases ps with
    | nil => cases e
    | cons p ps =>
      simp only [List.map_cons, List.cons.injEq] at e
      have h1 := h q List.mem_cons_self
      rw [e.1] at h1
      exact ⟨_, _, rfl, ⟨q.1, _, rfl, h1, ⟨_, _, rfl, rfl, _, _, rfl, rfl, rfl⟩⟩, rows_dv e.2 fun x hx => h x (List.mem_cons_of_mem _ hx)⟩
/-- a set of tuples by its object -/
theorem SetN.tr {pins : List (Addr × Obj)} {σ : L2.St} {H : Hp} {s : Shared} (hP : X.prog = g.P) (hw : X.w = g.w) (hK : X.K = g.K) (I : Inv X pins σ H s) {ds : List D} {a : Addr} {o : Obj} {es : Array (Int × Value)} {ep : Nat} {t : SetTable} (N : SetN g H ds a o es ep t)
    {ks : List (List Int)} (hi : allOf intsD ds = some ks) : ∃ (L : List (Addr × List Int)), ks.Perm (L.map (·.2)) ∧ (∀ p ∈ L, SqS g.K H p.1 (p.2.map V.int)) ∧ SetTR X.prog X.w s.heap a L es ep t := by
  rcases N.info with ⟨hne, z⟩ | ⟨L, ks', h1, h2, h3, h4, h5, h6, h7, h8, h9⟩
  · cases ds with
    | nil => exact absurd rfl hne
    | cons d r =>
      obtain ⟨z, rfl⟩ := z d List.mem_cons_self
      cases hi
  · rw [hi] at h1
    cases h1
    have hl : L.length < 64 := by
      have e := congrArg List.length h4
      unfold L2.rowsOf at e
      rw [Array.length_toList, List.length_map] at e
      have := N.few
      omega
    exact ⟨L, h2, h3, ⟨⟨o, (I.hok a _ N.at_).1, N.ex, N.dat⟩, by rw [hP, hw]; exact h4, by rw [hP, hw]; exact h5, h6, fun p hp => I.isT (by rw [hK]; exact (h3 p hp).sq), h7, by rw [hw]; exact h8, h9, hl⟩⟩
theorem b_sorted (hc : X.calm = true) (hP : X.prog = g.P) (hw : X.w = g.w) (hK : X.K = g.K) (hr : Room k X.A) : CallR X (.builtin "sorted") (rCB g (on1 (bBlt1 "sorted"))) := by
  intro pins s σ H xs us Q I r h
  obtain ⟨cl, ρ, S, σd, σe, ds0, d, S1, M, h1, h3, F⟩ := h
  obtain ⟨a, v, rfl, h1, h3⟩ := on1_some h3 h1
  obtain ⟨u, rfl, rx⟩ := vals1 r
  have fin : ∀ {it : Addr} {T : String} {o : Obj} {n : Nat} {its : List Value} {ws : List V} {ds q : List D}, (T = "list" ∨ T = "tuple") → s.heap.get? it = some o → o.cls = .type T → o.data = .seq its.toArray n → DVs g ρ H cl ds ws → Vals ws its → sortC ds = some q →
      Fin g cl ρ H σd σe (.loc S.length) (S ++ [.lst q]) Q → wpAny (model X.prog X.w) X.A (call (.builtin "sorted") [.ref it]) (EP X pins σ Q) X.xe s := by
    intro it T o n its ws ds q hT ho hc hd hv hr2 e2 F
    obtain ⟨ps, e3, hal, hso, hsh, hlen, rfl⟩ := sortC_some e2
    obtain ⟨i1, i2⟩ := each_of hK I e3 hv hr2
    have hz : (ds.zip ps).map (fun b => b.2) = ps := zip_snd (toPs_len e3)
    have hbl : (ds.zip ps).length = ps.length := by
      have := congrArg List.length hz
      rwa [List.length_map] at this
    refine sorted_seq (enc := fun b : D × PyData => b.2) hT ho hc hd i1 i2 (by rw [hz]; exact hal) (by rw [hz]; exact hso) (by rw [hbl, sizeLine_eq]; omega) (fun b hb => ?_) fun hA hB out c k1 k2 hat hol hea => ?_
    · have z := SeqAt.depth_of_shaped (hsh b.2 (by rw [← hz]; exact List.mem_map.mpr ⟨b, hb, rfl⟩))
      have := hr.un
      omega
    · obtain ⟨zs, v1, v2⟩ := each_back hea
      have I1 : Inv X pins σ H { s with heap := hA } := I.kept (t' := s.toks) k1
      have hn : H hA.objs.size = none := I1.hok.fresh (Nat.le_refl _)
      have I2 : Inv X pins σ (upd H hA.objs.size (.lst zs)) { s with heap := hB } := I1.laid (t' := s.toks) (h' := hB) k2 (Nat.le_refl _) ⟨by rw [v1.length, hol, hbl, sizeLine_eq]; omega, out, c, v1, hat⟩
      exact ⟨.ref hA.objs.size, _, I2, rfl, F.lst M v2 hn⟩
  cases a with
  | tup l =>
    obtain ⟨q, e2, h3⟩ := opt_some (show opt (sortC l) (fun q => some (K76.new S (.lst q))) = some (d, S1) from h3)
    cases h3
    obtain ⟨p, vs, rfl, q1, q2⟩ := h1
    cases rx
    obtain ⟨its, r', ⟨o, ho, hc, n, hd⟩, _⟩ := I.tuple (by rw [hK]; exact q1.sq)
    exact fin (.inr rfl) ho hc (by rw [hd]) q2 r' e2 F
  | loc n =>
    obtain ⟨o, e4, h3⟩ := opt_some h3
    rw [nth_eq] at e4
    obtain ⟨p, q1, q2⟩ := M.rel.addr e4
    obtain ⟨p', q3, rfl⟩ := h1
    rw [q1] at q3
    cases q3
    cases rx
    cases o with
    | lst l =>
      obtain ⟨q, e2, h3⟩ := opt_some (show opt (sortC l) (fun q => some (K76.new S (.lst q))) = some (d, S1) from h3)
      cases h3
      obtain ⟨vs, q4, q5⟩ := q2
      obtain ⟨hz, its, n, r', e⟩ := I.hok p _ q4
      exact fin (.inl rfl) e rfl rfl q5 r' e2 F
    | set l =>
      match l, h3, q2 with
      | [], h3, _ => cases h3
      | d0 :: l, h3, q2 =>
        obtain ⟨ps, e2, h3⟩ := opt_some (show opt (allOf pairD (d0 :: l)) (fun ps => some (K76.new S (.lst ((ps.mergeSort leP).map fun p => .tup [.int p.1, .int p.2])))) = some (d, S1) from h3)
        cases h3
        obtain ⟨o, es, ep, t, N⟩ := q2
        obtain ⟨hi, hb⟩ := pairs_some e2
        obtain ⟨L, h2, h4, R⟩ := N.tr hP hw hK I hi
        refine sorted_setT R (I.ok.hd hc) (d := 2) (B := 64) (by decide) (fun q hq => ?_) fun s' p out c L' k g' o' hp hg hout pm pw => ?_
        · obtain ⟨x, hx, e⟩ := List.mem_map.mp (h2.mem_iff.mpr (List.mem_map.mpr ⟨q, hq, rfl⟩))
          rw [← e]
          obtain ⟨b1, b2⟩ := hb x hx
          refine ⟨rfl, ?_⟩
          intro i hi
          rcases List.mem_cons.mp hi with rfl | hi
          · exact b1
          · rw [List.mem_singleton.mp hi]
            exact b2
        · have er := sorted_rows hb ((pm.map (·.2)).trans h2.symm) pw
          have dv : DVs g ρ H cl ((ps.mergeSort leP).map fun p => .tup [.int p.1, .int p.2]) (L'.map fun q => V.ref q.1) := rows_dv er fun q hq => h4 q (pm.mem_iff.mp hq)
          have hfew : L'.length < 64 := by rw [pm.length_eq]; exact R.few
          have hlen : (L'.map fun q => V.ref q.1).length ≤ sizeLine := by rw [List.length_map, sizeLine_eq]; omega
          have hn : H p = none := I.hok.fresh hp
          have hv : Vals (L'.map fun q => V.ref q.1) out.toList := by rw [hout]; exact vals_of_refs L'
          have J : Inv X pins σ (upd H p (.lst (L'.map fun q => V.ref q.1))) { s with heap := s'.heap, gens := s'.gens, drawn := s'.drawn, toks := s'.toks } :=
            I.call (ch := []) (Un.laid k hp hn) (I.hok.laid k hp ⟨hlen, out.toList, c, hv, hg⟩) (by rw [g']; exact I.bare) (fun _ z => nomatch z)
          have e : s' = { s with heap := s'.heap, gens := s'.gens, drawn := s'.drawn, toks := s'.toks } := by
            cases s'
            cases s
            cases o'
            rfl
          rw [e]
          exact ⟨.ref p, _, J, rfl, F.lst M dv hn⟩
    | _ => cases h3
  | _ => cases h3
theorem dict_entries_keys {kvs : List (D × D)} {ρ : List Addr} {H : Hp} {cl : Cl} : ∀ {kvs : List (D × D)} {xs : List (NestedKey × Addr × Value)}, NvR g ρ H cl kvs xs → DVs g ρ H cl (kvs.map (·.1)) ((keysOf xs).map V.ref)
  | [], xs, h => by
    have h : xs = [] := h
    subst h
    rfl
  | p :: r, xs, h => by
    obtain ⟨nk, ka, u, v, q, rfl, h0, h1, h2, h3, h4, h5, h6⟩ := h
    exact ⟨.ref ka, _, rfl, h3, dict_entries_keys (kvs := kvs) h6⟩
theorem KvR.keys {ρ : List Addr} {H : Hp} {cl : Cl} : ∀ {kvs : List (D × D)} {ks : List (Key × V)}, KvR g ρ H cl kvs ks → DVs g ρ H cl (kvs.map (·.1)) (ks.map fun kv => kV kv.1)
  | [], ks, h => by
    have h : ks = [] := h
    subst h
    rfl
  | p :: r, ks, h => by
    obtain ⟨k, v, q, rfl, e, h1, h2⟩ := h
    refine ⟨kV k, _, rfl, ?_, KvR.keys h2⟩
    show DV g ρ H cl p.1 (kV k)
    cases hp : p.1 <;> rw [hp] at e <;> first | (cases e; done) | skip
    · cases e
      rfl
    · cases e
      rfl
theorem b_list (hc : X.calm = true) (hK : X.K = g.K) : CallR X (.type "list") (rCB g (on1 (bTy1 "list"))) := by
  intro pins s σ H xs us Q I r h
  obtain ⟨cl, ρ, S, σd, σe, ds0, d, S1, M, h1, h3, F⟩ := h
  obtain ⟨a, v, rfl, h1, h3⟩ := on1_some h3 h1
  cases a with
  | tup l =>
    cases h3
    obtain ⟨p, vs, rfl, q1, q2⟩ := h1
    exact call_list_of pins s σ H _ us Q I r ⟨p, vs, rfl, .inr (by rw [hK]; exact q1.sq), fun l hl => F.lst M q2 hl⟩
  | loc n =>
    obtain ⟨o, e4, h3⟩ := opt_some (show opt (nth S n) (fun o => match o with | .lst ds => some (new S (.lst ds)) | .dct kvs => some (new S (.lst (kvs.map (·.1)))) | _ => none) = some (d, S1) from h3)
    rw [nth_eq] at e4
    obtain ⟨p, q1, q2⟩ := M.rel.addr e4
    obtain ⟨p', q3, rfl⟩ := h1
    rw [q1] at q3
    cases q3
    cases o with
    | lst l =>
      cases h3
      obtain ⟨vs, q4, q5⟩ := q2
      exact call_list_of pins s σ H _ us Q I r ⟨p, vs, rfl, .inl (SqL.of q4), fun l hl => F.lst M q5 hl⟩
    | dct kvs =>
      cases h3
      rcases q2 with ⟨h0, ks, q4, hn, q5⟩ | ⟨h0, o, es, ep, xs, hH, hs, hl, hx, hdt, hes, hnd, hnv⟩
      · exact call_list_dK hc pins s σ H _ us Q I r ⟨p, ks, rfl, q4, fun l hl => F.lst M (KvR.keys q5) hl⟩
      · obtain ⟨u, rfl, rx⟩ := vals1 r
        cases rx
        have ho : s.heap.get? p = some o := (I.hok p _ hH).1
        have hsz : es.size = xs.length := by
          have := congrArg List.length hes
          simpa using this
        have hlen : kvs.length = xs.length := hnv.length
        have hkey : ∀ j : Nat, (es[j]?).map (·.key) = ((keysOf xs).map Value.ref)[j]? := fun j => by
          rw [← Array.getElem?_toList, hes, List.getElem?_map, List.getElem?_map]
          unfold keysOf
          rw [List.getElem?_map]
          cases xs[j]? <;> rfl
        refine PySem.W.kdl_call (kdl_raw hs hx hdt) (I.ok.hd hc) ho (by omega) fun h' tk acc c' kp e it => ?_
        have ea : acc.toList = (keysOf xs).map Value.ref := by
          apply List.ext_getElem?
          intro j
          rw [← hkey j]
          cases hj : acc.toList[j]? with
          | none =>
            have h1 := List.getElem?_eq_none_iff.mp hj
            rw [Array.getElem?_eq_none (by rw [Array.length_toList, it.1] at h1; exact h1)]
            rfl
          | some v =>
            obtain ⟨en, hen, hv⟩ := it.2 j v (by rw [← Array.getElem?_toList]; exact hj)
            rw [hen, hv]
            rfl
        refine ⟨.ref s.heap.objs.size, upd H s.heap.objs.size (.lst ((keysOf xs).map V.ref)), I.laid kp (Nat.le_refl _) ⟨?_, acc.toList, c', ?_, ?_⟩, rfl, F.lst M (dict_entries_keys (kvs := kvs) hnv) (I.hok.fresh (Nat.le_refl _))⟩
        · unfold keysOf
          rw [List.length_map, List.length_map]
          omega
        · rw [ea]
          exact vals_refs _
        · rw [Array.toArray_toList]
          exact e
    | _ => cases h3
  | _ => cases h3
theorem vals_int_at : ∀ {is : List Int} {its : List Value} {i : Nat} {v : Value}, Vals (is.map V.int) its → its[i]? = some v → ∃ t, v = .int (is.getD i 0) t
  | [], its, i, v, r, e => by
    cases r
    simp at e
  | j :: is, its, i, v, r, e => by
    cases r with
    | cons r1 rr =>
      cases i with
      | zero =>
        simp at e
        subst e
        obtain ⟨t, h⟩ := r1
        exact ⟨t, by simpa using h⟩
      | succ i =>
        obtain ⟨t, h⟩ := vals_int_at (is := is) (i := i) rr (by simpa using e)
        exact ⟨t, by simpa using h⟩
theorem preSum_getD (is : List Int) : ∀ n, n ≤ is.length → preSum (fun i => is.getD i 0) n = (is.take n).sum
  | 0, _ => by simp [preSum]
  | n + 1, h => by
    show preSum _ n + is.getD n 0 = _
    rw [preSum_getD is n (by omega), List.take_add_one, List.sum_append]
    have e : is[n]? = some is[n] := List.getElem?_eq_getElem (by omega)
    simp [e]
theorem b_sum (hc : X.calm = true) (hK : X.K = g.K) : CallR X (.builtin "sum") (rCB g (on1 (bBlt1 "sum"))) := by
  intro pins s σ H xs us Q I r h
  obtain ⟨cl, ρ, S, σd, σe, ds0, d, S1, M, h1, h3, F⟩ := h
  obtain ⟨a, v, rfl, h1, h3⟩ := on1_some h3 h1
  obtain ⟨u, rfl, rx⟩ := vals1 r
  obtain ⟨ds, e1, h3⟩ := opt_some (show opt (seqOf S a) (fun ds => opt (allOf asI ds) fun is => some (D.int (sumI is), S)) = some (d, S1) from h3)
  obtain ⟨is, e2, h3⟩ := opt_some h3
  cases h3
  rw [sumI_eq] at F
  cases a with
  | loc n =>
    obtain ⟨_, p, vs, _, _, rfl, q1, q2⟩ := M.lst h1 e1
    have e3 := allOf_ints e2 q2
    subst e3
    exact cr_sum hc pins s σ H [.ref p] [u] Q I (.cons rx .nil) ⟨p, is, rfl, SqL.of q1, F.same M rfl⟩
  | tup l =>
    cases e1
    obtain ⟨p, vs, rfl, q1, q2⟩ := h1
    have e3 := allOf_ints e2 q2
    subst e3
    cases rx
    obtain ⟨its, r', ht, _⟩ := I.tuple (by rw [hK]; exact q1.sq)
    have ht' : s.heap.IsTuple p its.toArray := ht
    refine call_sum_walkAnyS (wpAny_pyIter_tuple ht' ?_)
    have hlt : p < s.heap.objs.size := ht.lt
    refine ⟨_, _, _, _, _, _, _, fun i => is.getD i 0, rfl, (Walks.tuple (A := X.A.in1) (I.ok.hd hc) s.heap.objs.size p (Nat.ne_of_lt hlt) its.toArray).toS, ⟨⟨_, Heap.get?_push_size _ rfl, rfl, rfl⟩, ht'.push _⟩, fun b hb => ?_, fun i v hv => ?_, fun s' t' hm => ?_⟩
    · show b < (s.heap.push _).objs.size
      rw [Heap.size_push]
      rcases List.mem_cons.mp hb with rfl | hb
      · exact Nat.lt_succ_self _
      · rw [List.mem_singleton.mp hb]
        exact Nat.lt_succ_of_lt hlt
    · have hv : its.toArray[i]? = some v := hv
      have hv : its[i]? = some v := by simpa using hv
      obtain ⟨ri, e5⟩ := vals_int_at r' hv
      rw [e5]
      exact ⟨ri, rfl⟩
    · have es : its.toArray.size = is.length := by
        have := r'.length
        rw [List.length_map] at this
        simp [this]
      rw [es, preSum_getD is is.length (Nat.le_refl _), List.take_length]
      rw [Moved.eq_with hm]
      exact ⟨.int is.sum, H, I.kept (t' := s'.toks) (fun b o eb => hm.heap b o (fun z => Nat.ne_of_lt (Heap.lt_size eb) (List.mem_singleton.mp z)) (Heap.get?_push_of_some _ eb)), ⟨_, rfl⟩, F.same M rfl⟩
  | _ => cases e1
end
end K76
end

/-! text Mth -/
section
namespace K76
open PySem PySem.Spec PyProof.Rows L2
section
variable {g : G} {X : Cx} {k : Nat}
def MK.T : MK → String
  | .int => "int"
  | .tup => "tuple"
  | .str => "str"
  | .lst => "list"
  | .dct => "dict"
/-- what the receiver is -/
theorem recv_ok {cl : Cl} {ρ : List Addr} {S : Sto} {H : Hp} {σd : Env1} {σ : L2.St} {pins : List (Addr × Obj)} {σ' : L2.St} {s : Shared} {d : D} {kd : MK} {x : V} {v : Value} (hK : X.K = g.K) (I : Inv X pins σ' H s) (M : Sim g cl ρ S H σd σ) (h : mkOf S d = some kd) (hd : DV g ρ H cl d x) (rx : RelV x v) :
    s.TypeIs v kd.T ∧ ∀ a, v = .ref a → ∃ ob, s.heap.get? a = some ob ∧ ob.dict = none := by
  cases d with
  | int i =>
    cases h
    have hd : x = .int i := hd
    subst hd
    obtain ⟨t, rfl⟩ := rx
    exact ⟨typeIs_int s i t, fun _ e => nomatch e⟩
  | str z =>
    cases h
    have hd : x = .str z := hd
    subst hd
    obtain ⟨t, rfl⟩ := rx
    exact ⟨typeIs_str s z t, fun _ e => nomatch e⟩
  | tup ds =>
    cases h
    obtain ⟨a, vs, rfl, h1, h2⟩ := hd
    cases rx
    obtain ⟨us, _, ⟨o, ho, hc, n, hdt⟩, _⟩ := I.tuple (by rw [hK]; exact h1.sq)
    refine ⟨⟨o, ho, hc⟩, fun b e => ?_⟩
    cases e
    rcases h1.st with ⟨o', u, e1, e2⟩ | ⟨o', e1, e2⟩
    · exact ⟨o', (I.hok _ _ e1).1, e2⟩
    · exact ⟨o', I.kIn _ _ (by rw [hK]; exact e1), e2⟩
  | loc n =>
    obtain ⟨o, e1, h⟩ := opt_some h
    rw [nth_eq] at e1
    obtain ⟨a, h1, h2⟩ := M.rel.addr e1
    obtain ⟨b, h3, rfl⟩ := hd
    rw [h1] at h3
    cases h3
    cases rx
    cases o with
    | lst l =>
      cases h
      obtain ⟨vs, q1, _⟩ := h2
      obtain ⟨_, us, m, _, e⟩ := I.hok a _ q1
      exact ⟨⟨_, e, rfl⟩, fun c z => by cases z; exact ⟨_, e, rfl⟩⟩
    | dct kvs =>
      cases h
      rcases h2 with ⟨_, ks, q1, _⟩ | ⟨_, o, es, ep, xs, q1, _, _, hx, _⟩
      · obtain ⟨_, _, _, _, o, _, _, e, ex, _⟩ := I.hok a _ q1
        exact ⟨⟨o, e, ex.1⟩, fun c z => by cases z; exact ⟨o, e, ex.2.1⟩⟩
      · have e : s.heap.get? a = some o := (I.hok a _ q1).1
        exact ⟨⟨o, e, hx.1⟩, fun c z => by cases z; exact ⟨o, e, hx.2.1⟩⟩
    | _ => cases h
  | _ => cases h
/-- what a method gives, by values -/
structure MthAt (g : G) (X : Cx) (kd : MK) (m : Str) (id : String) : Prop where
  pa : PlainAttrs kd.T
  slot : Slot kd.T m id
  ty : typeOf (.builtin id) = pure (.type "method_descriptor")
  run : ∀ {cl : Cl} {ρ : List Addr} {S S1 : Sto} {H : Hp} {σd : Env1} {σ : L2.St} {pins : List (Addr × Obj)} {σ' : L2.St} {s : Shared} {d r : D} {ds : List D} {x : V} {v : Value} {xs : List V} {us : List Value} {Q : VK}, Inv X pins σ' H s → Sim g cl ρ S H σd σ → DV g ρ H cl d x → RelV x v → DVs g ρ H cl ds xs → Vals xs us →
    mthD kd m d ds S = some (r, S1) → Fin g cl ρ H σd σ r S1 Q → wpAny (model X.prog X.w) X.A (call (.builtin id) (v :: us)) (EP X pins σ' Q) X.xe s
/-! the methods -/
theorem m_bits : MthAt g X .int "bit_length" "int.bit_length" where
  pa := PySem.F.plainAttrs_int
  slot := PyProof.Rows.slot_int_bit_length
  ty := PyProof.Rows.type_int_bit_length
  run := fun {cl ρ S S1 H σd σ pins σ' s d r ds x v xs us Q} I M hd rx hds rs h F => by
    cases d with
    | int i =>
      cases ds with
      | nil =>
        obtain ⟨_, h⟩ := grd_some (show grd (eqS "bit_length" "bit_length") (some (D.int (bitLen i), S)) = some (r, S1) from h)
        cases h
        have hd : x = .int i := hd
        subst hd
        obtain ⟨t, rfl⟩ := rx
        have hds : xs = [] := hds
        subst hds
        cases rs
        have e : (bitLen i : Nat) = Builtin.Int.intBits i := by
          unfold bitLen Builtin.Int.intBits
          by_cases hi : i = 0
          · subst hi
            rfl
          · rw [if_neg (by simpa using hi)]
            cases hn : i.natAbs with
            | zero => exact absurd (Int.natAbs_eq_zero.mp hn) hi
            | succ k => rfl
        rw [e] at F
        exact call_int_bit_length ⟨.int _, H, I.tok _, ⟨_, rfl⟩, F.same M rfl⟩
      | cons _ _ => cases h
    | _ => cases h
theorem m_append : MthAt g X .lst "append" "list.append" where
  pa := PySem.F.plainAttrs_list
  slot := PySem.F.slot_list_append
  ty := PySem.F.type_list_append
  run := fun {cl ρ S S1 H σd σ pins σ' s d r ds x v xs us Q} I M hd rx hds rs h F => by
    cases d with
    | loc n =>
      obtain ⟨l, e1, h⟩ := opt_some h
      match ds, hds, h with
      | [], _, h =>
        obtain ⟨e, _⟩ := grd_some h
        exact absurd e (by decide)
      | [y], hds, h =>
        obtain ⟨_, h⟩ := grd_some h
        obtain ⟨e2, h⟩ := grd_some h
        cases h
        obtain ⟨yv, q, rfl, hy, hq⟩ := hds
        have hq : q = [] := hq
        subst hq
        obtain ⟨_, a, vs, _, h1, rfl, h2, h3⟩ := M.lst hd e1
        rename_i hn
        cases hn
        have lw : Le H (upd H a (.lst (vs ++ [yv]))) := le_write h2 trivial
        refine mt_append pins s σ' H _ _ v us Q I rx rs ⟨a, vs, yv, rfl, rfl, h2, by rw [← h3.length]; exact line16' (small_le e2), F.go ρ _ _ (Pre.refl _) lw ?_ rfl⟩
        rw [setN_eq]
        exact M.set h1 h2 trivial ⟨_, upd_same, (h3.append (.cons hy .nil)).mono (Pre.refl _) lw fun _ _ z => z⟩
      | _ :: _ :: _, _, h => cases h
    | _ => cases h
theorem m_reverse : MthAt g X .lst "reverse" "list.reverse" where
  pa := PySem.F.plainAttrs_list
  slot := PySem.F.slot_list_reverse
  ty := PySem.F.type_list_reverse
  run := fun {cl ρ S S1 H σd σ pins σ' s d r ds x v xs us Q} I M hd rx hds rs h F => by
    cases d with
    | loc n =>
      obtain ⟨l, e1, h⟩ := opt_some h
      match ds, hds, h with
      | [], hds, h =>
        obtain ⟨_, h⟩ := grd_some h
        obtain ⟨e2, h⟩ := grd_some h
        cases h
        have hds : xs = [] := hds
        subst hds
        obtain ⟨_, a, vs, _, h1, rfl, h2, h3⟩ := M.lst hd e1
        rename_i hn
        cases hn
        have lw : Le H (upd H a (.lst vs.reverse)) := le_write h2 trivial
        refine mt_reverse pins s σ' H _ _ v us Q I rx rs ⟨a, vs, rfl, rfl, h2, F.go ρ _ _ (Pre.refl _) lw ?_ rfl⟩
        rw [setN_eq]
        exact M.set h1 h2 trivial ⟨_, upd_same, h3.rev.mono (Pre.refl _) lw fun _ _ z => z⟩
      | [y], _, h =>
        obtain ⟨e, _⟩ := grd_some h
        exact absurd e (by decide)
      | _ :: _ :: _, _, h => cases h
    | _ => cases h
theorem m_join : MthAt g X .str "join" "str.join" where
  pa := PySem.F.plainAttrs_str
  slot := PySem.F.slot_str_join
  ty := PySem.F.type_str_join
  run := fun {cl ρ S S1 H σd σ pins σ' s d r ds x v xs us Q} I M hd rx hds rs h F => by
    cases d with
    | str z =>
      match ds, hds, h with
      | [a], hds, h =>
        obtain ⟨l, e1, h⟩ := opt_some (show opt (asL S a) (fun ds => opt (allOf asS ds) fun ss => grd (Nat.blt ((ss.map (·.length)).sum + ss.length * z.length) 16000000) (some (D.str (Txt.join z ss), S))) = some (r, S1) from h)
        obtain ⟨ss, e2, h⟩ := opt_some h
        obtain ⟨e3, h⟩ := grd_some h
        cases h
        obtain ⟨yv, q, rfl, hy, hq⟩ := hds
        have hq : q = [] := hq
        subst hq
        obtain ⟨_, p, vs, _, h1, rfl, h2, h3⟩ := M.lst hy e1
        have ev := allOf_strs e2 h3
        subst ev
        have e3 : (ss.map (·.length)).sum + ss.length * z.length < 16000000 := Nat.lt_of_succ_le (Nat.le_of_ble_eq_true e3)
        exact mt_join pins s σ' H x _ v us Q I rx rs ⟨z, p, ss, hd, rfl, .inl (SqL.of h2), by omega, F.same M rfl⟩
      | [], _, h => cases h
      | _ :: _ :: _, _, h => cases h
    | _ => cases h
theorem m_split : MthAt g X .str "split" "str.split" where
  pa := PySem.F.plainAttrs_str
  slot := PySem.F.slot_str_split
  ty := PySem.F.type_str_split
  run := fun {cl ρ S S1 H σd σ pins σ' s d r ds x v xs us Q} I M hd rx hds rs h F => by
    cases d with
    | str z =>
      match ds, hds, h with
      | [a], hds, h =>
        obtain ⟨t, e1, h⟩ := opt_some (show opt (asS a) (fun t => grd (okStr z && Nat.blt 0 t.cps.size) (some (new S (.lst ((Txt.split z t).map D.str))))) = some (r, S1) from h)
        obtain ⟨e3, h⟩ := grd_some h
        cases h
        obtain ⟨e3, e4⟩ := Bool.and_eq_true_iff.mp e3
        obtain ⟨yv, q, rfl, hy, hq⟩ := hds
        have hq : q = [] := hq
        subst hq
        have e4 : 0 < t.cps.size := Nat.lt_of_succ_le (Nat.le_of_ble_eq_true e4)
        have e5 : z.cps.size < 16000000 := Nat.lt_of_succ_le (Nat.le_of_ble_eq_true e3)
        refine mt_split pins s σ' H x _ v us Q I rx rs ⟨z, t, hd, by rw [hy.str e1], ?_, ?_, fun p hp => ?_⟩
        · show (t.cps.size == 0) = false
          exact beq_eq_false_iff_ne.mpr (by omega)
        · show z.cps.size + 2 ≤ sizeLine
          rw [sizeLine_eq]
          omega
        · refine F.lst M ?_ hp
          have all : ∀ l : List Str, DVs g ρ H cl (l.map D.str) (l.map V.str) := by
            intro l
            induction l with
            | nil => rfl
            | cons a r ih => exact ⟨_, _, rfl, rfl, ih⟩
          exact all _
      | [], _, h => cases h
      | _ :: _ :: _, _, h => cases h
    | _ => cases h
theorem m_strip : MthAt g X .str "strip" "str.strip" where
  pa := PySem.F.plainAttrs_str
  slot := PySem.F.slot_str_strip
  ty := PySem.F.type_str_strip
  run := fun {cl ρ S S1 H σd σ pins σ' s d r ds x v xs us Q} I M hd rx hds rs h F => by
    cases d with
    | str z =>
      match ds, hds, h with
      | [a], hds, h =>
        obtain ⟨t, e1, h⟩ := opt_some (show opt (asS a) (fun t => grd (okStr z) (some (D.str (Txt.stripChars z t), S))) = some (r, S1) from h)
        obtain ⟨e3, h⟩ := grd_some h
        cases h
        obtain ⟨yv, q, rfl, hy, hq⟩ := hds
        have hq : q = [] := hq
        subst hq
        exact mt_stripChars pins s σ' H x _ v us Q I rx rs ⟨z, t, hd, by rw [hy.str e1], okStr_le e3, F.same M rfl⟩
      | [], _, h => cases h
      | _ :: _ :: _, _, h => cases h
    | _ => cases h
theorem m_dget (hP : X.prog = g.P) (hw : X.w = g.w) (hK : X.K = g.K) (hr : Room k X.A) : MthAt g X .dct "get" "dict.get" where
  pa := PySem.F.plainAttrs_dict
  slot := PySem.F.slot_dict_get
  ty := PySem.F.type_dict_get
  run := fun {cl ρ S S1 H σd σ pins σ' s d r ds x v xs us Q} I M hd rx hds rs h F => by
    cases d with
    | loc n =>
      obtain ⟨ob, e1, h⟩ := opt_some h
      rw [nth_eq] at e1
      cases ob with
      | dct kvs =>
        match ds, hds, h with
        | [dk, dx], hds, h =>
          obtain ⟨_, h⟩ := grd_some h
          obtain ⟨o, h4, h⟩ := opt_some h
          obtain ⟨yk, q, rfl, hyk, yx, q', rfl, hyx, hq⟩ := hds
          have hq : q' = [] := hq
          subst hq
          obtain ⟨u1, u2, rfl, r1, r2⟩ := vals2 rs
          obtain ⟨a, e1, ho⟩ := M.rel.addr e1
          obtain ⟨b, e2, rfl⟩ := hd
          rw [e1] at e2
          cases e2
          cases rx
          obtain ⟨hk, h4⟩ := grd_some h4
          rcases okKey_cases hk with ⟨k1, k2⟩ | ⟨k1, k2, k3⟩
          · obtain ⟨ks, hH, _, hR⟩ := dk_first ho k2
            obtain ⟨kk, ek⟩ := isKey_keyD k1
            obtain ⟨l1, l2⟩ := hR.look ek h4
            have ex := hyk.key ek
            subst ex
            refine d_get2 (by have := hr.un; omega) I (DGet.k (k := kk) hH) r1 r2 fun w' s' I' rw' => ?_
            cases o with
            | none =>
              cases h
              rw [l2 rfl] at rw'
              exact ⟨yx, H, I', rw', F.same M hyx⟩
            | some dv =>
              cases h
              obtain ⟨w2, e, hv⟩ := l1 _ rfl
              rw [e] at rw'
              exact ⟨w2, H, I', rw', F.same M hv⟩
          · obtain ⟨hs, hl, xs', hR, hnd, hD⟩ := dictN_at hP hw hK I ho k2
            obtain ⟨nk, en, hdp⟩ := nkOk_some k3
            obtain ⟨b, rfl⟩ := tup_ref k1 hyk
            cases r1
            obtain ⟨l1, l2⟩ := hR.look en h4
            refine call_meetsIn PySem.F.slot_dict_get hD.typeIs PySem.F.entry_dict_get (PySem.F.args_dict_get_3 _ _ _) (meetsH_dict_get_default (nestedKind X.prog X.w) a b hs u2) ⟨nested_room hr, nk, xs', ⟨DV.nested hK I _ en hyk rfl, hdp⟩, hD, ?_⟩
            cases o with
            | none =>
              cases h
              rw [l2 rfl]
              exact ⟨yx, H, I.tok _, r2, F.same M hyx⟩
            | some dv =>
              cases h
              obtain ⟨p, w2, e, rp, hv⟩ := l1 _ rfl
              rw [e]
              exact ⟨w2, H, I.tok _, rp, F.same M hv⟩
        | [], _, h => cases h
        | [_], _, h => cases h
        | _ :: _ :: _ :: _, _, h => cases h
      | _ => cases h
    | _ => cases h
theorem ixOf_spec {dx : D} {p : PyData} (ep : toP dx = some p) : ∀ {ds : List D} {qs : List PyData} {m j : Nat}, toPs ds = some qs → ixOf dx ds m = some j → ∃ i z, j = m + i ∧ qs[i]? = some z ∧ PyData.eqv z p = true ∧ ∀ (i' : Nat) (z' : PyData), i' < i → qs[i']? = some z' → PyData.eqv z' p = false
  | [], _, _, _, _, h => by cases h
  | y :: r, qs, m, j, e, h => by
    obtain ⟨a, e1, e2⟩ := opt_some (show opt (toP y) (fun p => opt (toPs r) fun q => some (p :: q)) = some qs from e)
    obtain ⟨q, e3, e4⟩ := opt_some e2
    cases e4
    obtain ⟨c, h1, h⟩ := opt_some (show opt (eqD y dx) (fun b => match b with | true => some m | false => ixOf dx r (m + 1)) = some j from h)
    have h2 := eqD_eqv y dx e1 ep h1
    cases c with
    | true =>
      cases h
      exact ⟨0, a, rfl, rfl, h2, fun i' z' hi => absurd hi (Nat.not_lt_zero _)⟩
    | false =>
      obtain ⟨i, z, rfl, i1, i2, i3⟩ := ixOf_spec ep e3 h
      refine ⟨i + 1, z, by omega, by simpa using i1, i2, fun i' z' hi hz => ?_⟩
      cases i' with
      | zero =>
        simp at hz
        rw [← hz]
        exact h2
      | succ i' => exact i3 i' z' (by omega) (by simpa using hz)
theorem m_index (hK : X.K = g.K) (hr : Room k X.A) : MthAt g X .tup "index" "tuple.index" where
  pa := PySem.F.plainAttrs_tuple
  slot := PySem.F.slot_tuple_index
  ty := PySem.F.type_tuple_index
  run := fun {cl ρ S S1 H σd σ pins σ' s d r ds x v xs us Q} I M hd rx hds rs h F => by
    cases d with
    | tup l =>
      match ds, hds, h with
      | [dx], hds, h =>
        obtain ⟨_, h⟩ := grd_some (show grd (eqS "index" "index") (opt (toP dx) fun p => opt (toPs l) fun q => grd (SeqAt.shaped p && SeqAt.shaped (.tuple q)) (opt (ixOf dx l 0) fun k => some (D.int k, S))) = some (r, S1) from h)
        obtain ⟨p, e1, h⟩ := opt_some h
        obtain ⟨q, e2, h⟩ := opt_some h
        obtain ⟨e3, h⟩ := grd_some h
        obtain ⟨j, e4, h⟩ := opt_some h
        cases h
        obtain ⟨e3, e5⟩ := Bool.and_eq_true_iff.mp e3
        obtain ⟨yv, q', rfl, hy, hq⟩ := hds
        have hq : q' = [] := hq
        subst hq
        obtain ⟨u, rfl, ru⟩ := vals1 rs
        obtain ⟨a, vs, rfl, h1, h2⟩ := hd
        cases rx
        obtain ⟨i, z, rfl, i1, i2, i3⟩ := ixOf_spec e1 e2 e4
        obtain ⟨as, rd1⟩ := Dp.reads I p yv u (by rw [hK]; exact DV.dp dx e1 hy) ru
        obtain ⟨its, rv, ⟨⟨cls, dd, data, sls⟩, ho, hc, n, hdt⟩, hlen⟩ := I.tuple (by rw [hK]; exact h1.sq)
        simp only at hc hdt
        subst hc hdt
        obtain ⟨bs, rd2⟩ := Dp.readsAll I q vs its (by rw [hK]; exact DVs.dp l e2 h2) rv
        have hxs : PyData.canLayAll0 q = true := SeqAt.canLay_of_shaped e5
        have hroom : X.A.units + 1 + min (PyData.depthAll q) p.depth < cLine := by
          have z1 := SeqAt.depth_of_shaped e3
          have z2 := hr.un
          have z3 := Nat.min_le_right (PyData.depthAll q) p.depth
          omega
        have hn : its.length = q.length := SeqAt.ReadsAll.length q its bs rd2
        have hmap : its.map (SeqAt.readOf s.heap) = q := SeqAt.readsAll_map q its bs hxs rd2
        have hi : i < q.length := (List.getElem?_eq_some_iff.mp i1).1
        have at_ : ∀ (m : Nat) (hm : m < its.toArray.size), q[m]? = some (SeqAt.readOf s.heap its.toArray[m]) := fun m hm => by
          have hml : m < its.length := by simpa using hm
          rw [← hmap, List.getElem?_map, List.getElem?_eq_getElem hml]
          simp
        have hj : i < its.toArray.size := by simpa [hn] using hi
        have eqs := SeqAt.items_eqAt (A := X.A) (vs := its.toArray) (show ReadsAll s.heap its.toArray.toList q bs from rd2) rd1 hxs (SeqAt.canLay_of_shaped e3) hroom
        rw [Nat.zero_add] at F
        refine call_meets PySem.F.slot_tuple_index ⟨_, ho, rfl⟩ PySem.F.entry_tuple_index (PySem.F.args_tuple_index_2 _ _)
          (PySem.SeqAt.tuple_index2_found a its.toArray n dd sls u (fun m => if hm : m < its.toArray.size then PyData.eqv (SeqAt.readOf s.heap its.toArray[m]) p else false) i hj (Nat.zero_le _) hj ?_ ?_) ⟨ho, fun m hm => ?_, ?_⟩
        · rw [dif_pos hj]
          have h3 := at_ i hj
          rw [i1] at h3
          rw [← Option.some.inj h3]
          exact i2
        · intro m hm _ hmi
          rw [dif_pos hm]
          exact i3 m _ hmi (at_ m hm)
        · rw [dif_pos hm]
          exact eqs _ (Array.getElem_mem hm)
        · exact ⟨.int (i : Nat), H, I.tok _, ⟨_, rfl⟩, F.same M rfl⟩
      | [], _, h => cases h
      | _ :: _ :: _, _, h => cases h
    | _ => cases h
end
end K76
end

/-! text Trk -/
section
namespace K76
open PySem PySem.Spec PyProof.Rows L2
/-! ### a heap whose cells are tracked or let go -/
def FrzCell (u : HO) : Prop := ∃ o w, u = .frz o (.own 0) ∧ o.data = .cell w
structure Mv (H H2 : Hp) (c c2 : Cl) : Prop where
  keep : ∀ a u, H a = some u → ¬ FrzCell u → H2 a = some u
  cell : ∀ k v, c k v ∨ CellT H k v → c2 k v ∨ CellT H2 k v
section
variable {g : G} {ρ : List Addr} {H H2 : Hp} {c c2 : Cl}
theorem Mv.sqS (m : Mv H H2 c c2) {K : PySem.W.Frag} {a : Addr} {xs : List V} (h : SqS K H a xs) : SqS K H2 a xs := h.elim (fun ⟨o, e, d⟩ => .inl ⟨o, m.keep _ _ e (fun ⟨_, _, z, _⟩ => by cases z), d⟩) .inr
theorem Mv.lam (m : Mv H H2 c c2) {a : Addr} {l : Lam} {vs : List V} (h : LamAt H c a l vs) : LamAt H2 c2 a l vs := by
  obtain ⟨o, cells, c', oc, pm, ctv, uc, h1, h2, h3, h4, h5, h6, h7⟩ := h.at_
  refine ⟨o, cells, c', oc, pm, ctv, uc, m.keep _ _ h1 ?_, h2, m.keep _ _ h3 ?_, h4, h5, h6, fun i x e => ?_⟩
  · rintro ⟨o', w, z, d⟩
    cases z
    rw [h2] at d
    cases d
  · rintro ⟨o', w, z, d⟩
    cases z
    obtain ⟨vs, t, e, _⟩ := h4
    rw [e] at d
    cases d
  · obtain ⟨k, v, e1, e2, e3⟩ := h7 i x e
    exact ⟨k, v, e1, e2, m.cell _ _ e3⟩
mutual
theorem DV.mv (m : Mv H H2 c c2) : ∀ (d : D) {v : V}, DV g ρ H c d v → DV g ρ H2 c2 d v
  | .non, _, h => h
  | .bl _, _, h => h
  | .int _, _, h => h
  | .str _, _, h => h
  | .ty _, _, h => h
  | .glo _, _, h => h
  | .tup ds, v, ⟨a, vs, h1, h2, h3⟩ => ⟨a, vs, h1, m.sqS h2, DVs.mv m ds h3⟩
  | .loc n, v, h => h
  | .lam l caps, v, ⟨a, vs, h1, h2, h3⟩ => ⟨a, vs, h1, m.lam h2, DVs.mv m caps h3⟩
theorem DVs.mv (m : Mv H H2 c c2) : ∀ (ds : List D) {vs : List V}, DVs g ρ H c ds vs → DVs g ρ H2 c2 ds vs
  | [], _, h => h
  | d :: ds, vs, ⟨v, r, h1, h2, h3⟩ => ⟨v, r, h1, DV.mv m d h2, DVs.mv m ds h3⟩
end
theorem FsR.mv (m : Mv H H2 c c2) : ∀ {fs : List (Str × D)} {vs : List (Str × V)}, FsR g ρ H c fs vs → FsR g ρ H2 c2 fs vs
  | [], _, h => h
  | p :: r, _, ⟨v, q, e, h2, h3⟩ => ⟨v, q, e, DV.mv m _ h2, FsR.mv m h3⟩
theorem KvR.mv (m : Mv H H2 c c2) : ∀ {fs : List (D × D)} {vs : List (Key × V)}, KvR g ρ H c fs vs → KvR g ρ H2 c2 fs vs
  | [], _, h => h
  | p :: r, _, ⟨k, v, q, e, hk, h2, h3⟩ => ⟨k, v, q, e, hk, DV.mv m _ h2, KvR.mv m h3⟩
theorem NvR.mv (m : Mv H H2 c c2) : ∀ {fs : List (D × D)} {xs : List (NestedKey × Addr × Value)}, NvR g ρ H c fs xs → NvR g ρ H2 c2 fs xs
  | [], _, h => h
  | p :: r, _, ⟨nk, ka, u, v, q, e, h0, h1, h2, h3, h4, h5, h6⟩ => ⟨nk, ka, u, v, q, e, h0, h1, h2, DV.mv m _ h3, h4, DV.mv m _ h5, NvR.mv m h6⟩
theorem OR.mv (m : Mv H H2 c c2) {a : Addr} : ∀ {o : OD}, OR g ρ H c o a → OR g ρ H2 c2 o a
  | .lst ds, ⟨vs, h1, h2⟩ => ⟨vs, m.keep _ _ h1 (fun ⟨_, _, z, _⟩ => by cases z), DVs.mv m _ h2⟩
  | .dct kvs, .inl ⟨h0, ks, h1, hn, h2⟩ => .inl ⟨h0, ks, m.keep _ _ h1 (fun ⟨_, _, z, _⟩ => by cases z), hn, KvR.mv m h2⟩
  | .dct kvs, .inr ⟨h0, o, es, ep, xs, h1, h2, h3, h4, h5, h6, h7, h8⟩ => .inr ⟨h0, o, es, ep, xs, m.keep _ _ h1 (fun ⟨_, _, z, _⟩ => by cases z), h2, h3, h4, h5, h6, h7, NvR.mv m h8⟩
  | .set ds, ⟨o, es, ep, t, h⟩ => ⟨o, es, ep, t, ⟨m.keep _ _ h.at_ (fun ⟨_, _, z, _⟩ => by cases z), h.ex, h.dat, h.fits, h.size, h.few, h.info.elim .inl fun ⟨L, ks, a1, a2, a3, a4⟩ => .inr ⟨L, ks, a1, a2, fun p hp => m.sqS (a3 p hp), a4⟩⟩⟩
  | .ins n fs, ⟨C, dx, fvs, h0, h1, h2⟩ => ⟨C, dx, fvs, h0, m.keep _ _ h1 (fun ⟨_, _, z, _⟩ => by cases z), FsR.mv m h2⟩
  | .dead, ⟨o, u, es, ep, h, hd⟩ => ⟨o, u, es, ep, m.keep _ _ h (fun ⟨_, _, z, d⟩ => by cases z; rw [hd] at d; cases d), hd⟩
theorem Rel.mv (m : Mv H H2 c c2) {S : Sto} (R : Rel g c ρ S H) : Rel g c2 ρ S H2 := by
  refine ⟨R.len, R.nd, fun n o a e1 e2 => OR.mv m (R.sto n o a e1 e2), fun p hp => ?_⟩
  obtain ⟨ps, h1, h2, h3⟩ := R.tab p hp
  refine ⟨ps, m.keep _ _ h1 (fun ⟨_, _, z, _⟩ => by cases z), h2, fun pos cv e => ?_⟩
  obtain ⟨k, oc, uc, e1, e2, e3⟩ := h3 pos cv e
  refine ⟨k, oc, uc, e1, m.keep _ _ e2 ?_, e3⟩
  rintro ⟨o', w, z, d⟩
  cases z
  obtain ⟨vs, t, e, _⟩ := e3
  rw [e] at d
  cases d
end
/-! ### the known cells tracked -/
open Classical in
/-- the cells that c knows are locked -/
noncomputable def trkH (c : Cl) (s : Shared) (H : Hp) : Hp := fun b => if ∃ v, c b v then (s.heap.get? b).map (fun o => .frz o (.own 0)) else H b
open Classical in
/-- .. and let go -/
noncomputable def letH (c : Cl) (H : Hp) : Hp := fun b => if ∃ v, c b v then none else H b
theorem trkH_in {c : Cl} {s : Shared} {H : Hp} {b : Addr} (h : ∃ v, c b v) : trkH c s H b = (s.heap.get? b).map (fun o => .frz o (.own 0)) := if_pos h
theorem trkH_out {c : Cl} {s : Shared} {H : Hp} {b : Addr} (h : ¬ ∃ v, c b v) : trkH c s H b = H b := if_neg h
theorem letH_in {c : Cl} {H : Hp} {b : Addr} (h : ∃ v, c b v) : letH c H b = none := if_pos h
theorem letH_out {c : Cl} {H : Hp} {b : Addr} (h : ¬ ∃ v, c b v) : letH c H b = H b := if_neg h
/-- what c says of the state -/
def CellsAt (c : Cl) (s : Shared) (H : Hp) : Prop := ∀ b v, c b v → H b = none ∧ ∃ u, RelV v u ∧ s.heap.IsCell b (some u)
section
variable {g : G} {P : Program} {w : World} {ρ : List Addr} {H H' : Hp} {c : Cl} {s : Shared} {h' : Heap}
theorem CellsAt.obj (k : CellsAt c s H) {b : Addr} (h : ∃ v, c b v) : ∃ o u v, c b v ∧ H b = none ∧ s.heap.get? b = some o ∧ o.data = .cell (some u) ∧ RelV v u ∧ trkH c s H b = some (.frz o (.own 0)) := by
  obtain ⟨v, hv⟩ := h
  obtain ⟨h1, u, r, o, ho, hd⟩ := k b v hv
  exact ⟨o, u, v, hv, h1, ho, hd, r, by rw [trkH_in ⟨v, hv⟩, ho]; rfl⟩
theorem trk_keep (k : CellsAt c s H) {b : Addr} {u : HO} (h : H b = some u) : trkH c s H b = some u := by
  rw [trkH_out]
  · exact h
  · rintro ⟨v, hv⟩
    rw [(k b v hv).1] at h
    cases h
theorem trk_mv (k : CellsAt c s H) : Mv H (trkH c s H) c bot where
  keep := fun a u h _ => trk_keep k h
  cell := fun b v h => by
    refine .inr ?_
    rcases h with h | ⟨o, u, h1, h2, h3⟩
    · obtain ⟨h1, u, r, o, ho, hd⟩ := k b v h
      exact ⟨o, u, by rw [trkH_in ⟨v, h⟩, ho]; rfl, hd, r⟩
    · exact ⟨o, u, trk_keep k h1, h2, h3⟩
theorem trk_le (k : CellsAt c s H) : Le H (trkH c s H) := ⟨fun b xs h => trk_keep k h, fun b o u h => trk_keep k h⟩
theorem trk_hok (k : CellsAt c s H) (ok : HOk P w H s.heap) : HOk P w (trkH c s H) s.heap := fun b u e => by
  by_cases h : ∃ v, c b v
  · obtain ⟨o, u', v, _, _, ho, _, _, e'⟩ := k.obj h
    rw [e'] at e
    cases e
    exact ⟨ho, o, ho⟩
  · rw [trkH_out h] at e
    exact (ok b u e).stay (fun _ _ _ q => q) (fun _ q => trk_keep k q) fun _ _ q => trk_keep k q
/-- behind something that kept the locks -/
theorem let_mv (k : CellsAt c s H) (l : Le (trkH c s H) H') : Mv H' (letH c H') bot c where
  keep := fun a u h hn => by
    rw [letH_out]
    · exact h
    · intro hv
      obtain ⟨o, u', v, _, _, _, hd, _, e'⟩ := k.obj hv
      have := l.frzs _ _ _ e'
      rw [this] at h
      cases h
      exact hn ⟨o, _, rfl, hd⟩
  cell := fun b v h => by
    rcases h with h | ⟨o, u, h1, h2, h3⟩
    · exact h.elim
    · by_cases hv : ∃ v, c b v
      · obtain ⟨o', u', v', hc, _, _, hd, r, e'⟩ := k.obj hv
        have := l.frzs _ _ _ e'
        rw [this] at h1
        cases h1
        rw [hd] at h2
        cases h2
        rw [h3.inj r]
        exact .inl hc
      · exact .inr ⟨o, u, by rw [letH_out hv]; exact h1, h2, h3⟩
theorem let_le (k : CellsAt c s H) (l : Le (trkH c s H) H') : Le H (letH c H') := by
  refine ⟨fun b xs h => ?_, fun b o u h => ?_⟩
  · have hb : ¬ ∃ v, c b v := fun ⟨v, hv⟩ => by rw [(k b v hv).1] at h; cases h
    rw [letH_out hb]
    exact l.tups _ _ (trk_keep k h)
  · have hb : ¬ ∃ v, c b v := fun ⟨v, hv⟩ => by rw [(k b v hv).1] at h; cases h
    rw [letH_out hb]
    exact l.frzs _ _ _ (trk_keep k h)
theorem let_hok (k : CellsAt c s H) (l : Le (trkH c s H) H') (ok : HOk P w H' h') : HOk P w (letH c H') h' := fun b u e => by
  have hb : ¬ ∃ v, c b v := fun hv => by rw [letH_in hv] at e; cases e
  rw [letH_out hb] at e
  refine (ok b u e).stay (fun _ _ _ q => q) (fun d q => ?_) fun d xs q => ?_
  · rw [letH_out]
    · exact q
    · intro hv
      obtain ⟨o, _, _, _, _, _, _, _, e'⟩ := k.obj hv
      have := l.frzs _ _ _ e'
      rw [this] at q
      cases q
  · rw [letH_out]
    · exact q
    · intro hv
      obtain ⟨o, _, _, _, _, _, _, _, e'⟩ := k.obj hv
      have := l.frzs _ _ _ e'
      rw [this] at q
      cases q
theorem let_un {fs : List Addr} (k : CellsAt c s H) (hf : ∀ b v, c b v → b ∉ fs) (ok : HOk P w H' h') (u : Un fs [] (trkH c s H) H' s.heap h') : Un fs [] H (letH c H') s.heap h' := by
  have l : Le (trkH c s H) H' := ⟨u.tups, u.frzs⟩
  have le := let_le k l
  have out : ∀ {b : Addr}, H b = none → ¬ (∃ v, c b v) → trkH c s H b = none := fun {b} n h => by rw [trkH_out h]; exact n
  refine ⟨fun b o e n hb hx => ?_, fun b o e n hb hx => ?_, fun b o e n hx => ?_, fun b o e hx => u.there b o e hx, le.tups, le.frzs, fun b ps e => ?_⟩
  · by_cases hv : ∃ v, c b v
    · obtain ⟨o', _, _, _, _, ho, _, _, e'⟩ := k.obj hv
      rw [e] at ho
      cases ho
      exact (ok b _ (l.frzs _ _ _ e')).1
    · exact u.keep b o e (out n hv) hb hx
  · have hv : ¬ ∃ v, c b v := fun ⟨v, hv⟩ => hf b v hv hb
    exact u.slot b o e (out n hv) hb hx
  · by_cases hv : ∃ v, c b v
    · exact letH_in hv
    · rw [letH_out hv]
      exact u.free b o e (out n hv) hx
  · obtain ⟨more, h⟩ := u.tbls b ps (trk_keep k e)
    refine ⟨more, ?_⟩
    have hb : ¬ ∃ v, c b v := fun ⟨v, hv⟩ => by rw [(k b v hv).1] at e; cases e
    rw [letH_out hb]
    exact h
end
/-! ### calls -/
/-- what a call gives -/
def RetK (g : G) (outer : List Env) (s : Shared) (H : Hp) (ρ : List Addr) (d : D) (S1 : Sto) (r : Result) (s' : Shared) : Prop := match r with
  | .ok (.ret u) => CE outer g.P g.w H s (fun v H' => ∃ ρ', Pre ρ ρ' ∧ Le H H' ∧ Rel g bot ρ' S1 H' ∧ DV g ρ' H' bot d v) u s'
  | _ => False
/-- the object that is called -/
def FnV (g : G) (ρ : List Addr) (H : Hp) : Fn → Addr → Prop
  | .fn x, f => g.mg x = some (.ref f)
  | .meth c m, f => ∃ Ca, g.mg c = some (.ref Ca) ∧ Meth g.K Ca m f
  | .lam l caps, f => DV g ρ H bot (.lam l caps) (.ref f)
/-- what the program has -/
def FnDom (P : Prog1) : Fn → Prop
  | .fn x => hasK x P.defs = true
  | .meth c m => ∃ ms, look c P.clss = some ms ∧ hasK m ms = true
  | .lam _ _ => True
structure CallOk (g : G) (P : Prog1) (j : Nat) (call : CallT) : Prop where
  dom : ∀ (fn : Fn) (pos : List D) (kws : List (Str × D)) (S : Sto) (r : D × Sto), call fn pos kws S = some r → FnDom P fn
  ok : ∀ (fn : Fn) (pos : List D) (kws : List (Str × D)) (S S1 : Sto) (d : D), call fn pos kws S = some (d, S1) →
    ∀ (A : Around) (outer : List Env) (s : Shared) (H : Hp) (ρ : List Addr) (f : Addr) (vs zs : List V) (us ws : List Value), Room (2 * j) A → Env0 g.P g.w g.K g.mg g.base A outer s H → Rel g bot ρ S H → FnV g ρ H fn f →
      DVs g ρ H bot pos vs → DVs g ρ H bot (kws.map (·.2)) zs → Vals vs us → Vals zs ws → codeAny (model g.P g.w) A (.call (.ref f) ⟨us, (kws.map (·.1)).zip ws⟩) (RetK g outer s H ρ d S1) s
section
variable {g : G} {C : Cx1} {X : Cx} {bk : Bool} {sc : Scope} {cl : ClF} {k j : Nat} {ih : Ih} {pins : List (Addr × Obj)} {σ : L2.St} {H : Hp} {s : Shared} {ρ : List Addr} {S : Sto} {σd : Env1}
theorem Good.cells (Gd : Good g C X bk sc cl k) (I : Inv X pins σ H s) : CellsAt (cl σd σ) s H := fun b v h => let ⟨h1, _, _, h2⟩ := Gd.clT pins σ H s σd b v I h; ⟨h1, h2⟩
theorem Good.env0 (Gd : Good g C X bk sc cl k) (I : Inv X pins σ H s) : Env0 g.P g.w g.K g.mg g.base X.A X.stack s (trkH (cl σd σ) s H) := by
  have e := I.env0
  rw [Gd.P, Gd.w, Gd.K, Gd.mg] at e
  have kc := Gd.cells (σd := σd) I
  refine ⟨e.frames, by rw [← Gd.base]; exact e.mod, fun b o h => ?_, by rw [← Gd.base]; exact e.bsz, by rw [← Gd.base]; exact e.funs, fun b hb => ?_, trk_hok kc e.hok, e.bare⟩
  · rw [← Gd.base] at h
    obtain ⟨h1, h2⟩ := e.bs b o h
    refine ⟨h1, ?_⟩
    rw [trkH_out]
    · exact h2
    · rintro ⟨v, hv⟩
      have := (Gd.clT pins σ H s σd b v I hv).2.2.1
      rw [h] at this
      cases this
  · rw [trkH_out]
    · exact e.frf b hb
    · rintro ⟨v, hv⟩
      exact (Gd.clT pins σ H s σd b v I hv).2.1 hb
/-- behind a call -/
theorem Good.after (Gd : Good g C X bk sc cl k) (I : Inv X pins σ H s) (M : Sim g (cl σd σ) ρ S H σd σ) {d : D} {S1 : Sto} {u : Value} {s' : Shared} (h : RetK g X.stack s (trkH (cl σd σ) s H) ρ d S1 (.ok (.ret u)) s') :
    EP X pins σ (fun v H' => ∃ ρ', Pre ρ ρ' ∧ Le H H' ∧ Sim g (cl σd σ) ρ' S1 H' σd σ ∧ DV g ρ' H' (cl σd σ) d v) u s' := by
  obtain ⟨v, H', os, bare, un, hok, r, ρ', p, l, R, hd⟩ := h
  have kc := Gd.cells (σd := σd) I
  have mv := let_mv kc l
  have le := let_le kc l
  have un' := let_un kc (fun b v hv => (Gd.clT pins σ H s σd b v I hv).2.1) hok un
  have hok' := let_hok kc l hok
  rw [← Gd.P, ← Gd.w] at hok'
  exact ⟨v, letH (cl σd σ) H', I.call' (ch := []) os un' hok' bare (fun _ z => nomatch z), r, ρ', p, le, ⟨R.mv mv, M.env.mono p le fun _ _ z => z⟩, DV.mv mv d hd⟩
/-- a call from a body -/
theorem call_run (Gd : Good g C X bk sc cl k) (hk : 2 * j ≤ k) (Ck : CallOk g C.P j C.call) (I : Inv X pins σ H s) (M : Sim g (cl σd σ) ρ S H σd σ) {fn : Fn} {f : Addr} {pos : List D} {kws : List (Str × D)} {d : D} {S1 : Sto} {vs zs : List V} {us ws : List Value}
    (e : C.call fn pos kws S = some (d, S1)) (hf : FnV g ρ (trkH (cl σd σ) s H) fn f) (hp : DVs g ρ H (cl σd σ) pos vs) (hz : DVs g ρ H (cl σd σ) (kws.map (·.2)) zs) (r : Vals vs us) (rz : Vals zs ws) :
    wpAny (model X.prog X.w) X.A (call (.ref f) us ((kws.map (·.1)).zip ws)) (EP X pins σ (fun v H' => ∃ ρ', Pre ρ ρ' ∧ Le H H' ∧ Sim g (cl σd σ) ρ' S1 H' σd σ ∧ DV g ρ' H' (cl σd σ) d v)) X.xe s := by
  have kc := Gd.cells (σd := σd) I
  have mv := trk_mv kc
  have rc := Ck.ok fn pos kws S S1 d e X.A X.stack s (trkH (cl σd σ) s H) ρ f vs zs us ws (Gd.room.mono hk) (Gd.env0 I) (M.rel.mv mv) hf (DVs.mv mv pos hp) (DVs.mv mv _ hz) r rz
  rw [← Gd.P, ← Gd.w] at rc
  refine wpAny_call (codeAny_mono rc fun r s' hq => ?_)
  cases r with
  | error e => exact False.elim hq
  | ok fl =>
    cases fl with
    | ret u => exact Gd.after I M hq
    | next => exact False.elim hq
    | brk => exact False.elim hq
    | cont => exact False.elim hq
end
end K76
end

/-! text Cal -/
section
namespace K76
open PySem PySem.Spec PyProof.Rows L2
/-! ### argument rows without stars -/
section
variable {Mo : Model} {A : Around} {E : Value → Shared → Prop} {s : Shared} {env : Env} {pos : Pos}
abbrev NoStar (es : List Expr) : Prop := ∀ x p, Expr.Starred x p ∉ es
theorem star_plain : ∀ {es : List Expr}, NoStar es → (backTo pos (starEach es env)).any (·.1) = false
  | [], _ => rfl
  | e :: r, h => by
    rw [star_cons fun x p z => h x p (by rw [z]; exact List.mem_cons_self)]
    show (false || (backTo pos (starEach r env)).any (·.1)) = false
    rw [star_plain fun x p z => h x p (List.mem_cons_of_mem _ z)]
    rfl
theorem star_all : ∀ {es : List Expr}, NoStar es → (backTo pos (starEach es env)).all (fun x => !x.1) = true
  | [], _ => rfl
  | e :: r, h => by
    rw [star_cons fun x p z => h x p (by rw [z]; exact List.mem_cons_self)]
    show (true && (backTo pos (starEach r env)).all (fun x => !x.1)) = true
    rw [star_all fun x p z => h x p (List.mem_cons_of_mem _ z)]
    rfl
theorem args_of {f : Value} {es : List Expr} {Q : Args → Shared → Prop} (hs : NoStar es) (h : wpAny Mo A (spliced (backTo pos (starEach es env))) (fun vs s' => Q ⟨vs, []⟩ s') E s) : wpAny Mo A (evalArgs f true (backTo pos (starEach es env)) []) Q E s := by
  cases es with
  | nil =>
    unfold evalArgs
    show wpAny Mo A (spliced [] >>= _) Q E s
    refine wpAny_bind (wpAny_mono h (fun vs s' h' => ?_) fun _ _ x => x)
    refine wpAny_holding ?_
    exact wpAny_bind (wpAny_pure (wpAny_bind (wpAny_pure (wpAny_pure h'))))
  | cons e r =>
    rw [star_cons fun x p z => hs x p (by rw [z]; exact List.mem_cons_self)] at h ⊢
    exact Calls.evalArgs_plain h
theorem cw_keep {P : Heap → Prop} {f : Value} {first : List Value} {es : List Expr} {Q : Value → Shared → Prop} (hk : ∀ h, P h → ∃ k, (k = Keeper.frame ∨ k = Keeper.machine ∨ k = Keeper.boundFrame) ∧ PySem.W.Looks Mo h (keeperOf f) k) (hs : NoStar es)
    (h : wpAny Mo A (spliced (backTo pos (starEach es env))) (fun vs s1 => P s1.heap ∧ wpAny Mo A (call f (first ++ vs)) Q E s1) E s) : wpAny Mo A (callWith pos f first (backTo pos (starEach es env)) []) Q E s :=
  PySem.W.callWith_of (by rw [star_plain hs]; rfl) hk (args_of hs h)
theorem cw_blt {id : String} {first : List Value} {es : List Expr} {Q : Value → Shared → Prop} (hs : NoStar es) (h : wpAny Mo A (spliced (backTo pos (starEach es env))) (fun vs s1 => wpAny Mo A (call (.builtin id) (first ++ vs)) Q E s1) E s) :
    wpAny Mo A (callWith pos (.builtin id) first (backTo pos (starEach es env)) []) Q E s := Calls.callWith_builtin (star_plain hs) (args_of hs h)
theorem cw_ty {T : String} {es : List Expr} {Q : Value → Shared → Prop} (hs : NoStar es) (h : wpAny Mo A (spliced (backTo pos (starEach es env))) (fun vs s1 => wpAny Mo A (call (.type T) vs) Q E s1) E s) :
    wpAny Mo A (callWith pos (.type T) [] (backTo pos (starEach es env)) []) Q E s := PyProof.Rows.callWith_type (star_plain hs) (args_of hs h)
/-- a method call on one line -/
theorem mc_line {o : Expr} {m : Str} {apos : Pos} {es : List Expr} {Q : Value → Shared → Prop} (hb : attributeBase o m env (eval o env) = eval o env) (hs : NoStar es) (hn : es.length < 20) (hl : (apos.endLine == pos.line) = true)
    (h : wpAny Mo A (eval o env) (fun ov s1 => wpAny Mo A (getMethod ov m (plainOf o env)) (fun fx s2 => wpAny Mo A (callWith pos fx.1 fx.2 (backTo pos (starEach es env)) []) Q E s2) E s1) E s) :
    wpAny Mo A (eval (.Call (.Attribute o m apos) es [] pos) env) Q E s := by
  rw [arm_eval_Call, hb]
  refine wpAny_bind (wpAny_mono h (fun ov s1 h1 => wpAny_bind (wpAny_standAt ?_)) fun _ _ x => x)
  rw [mcall_line (by
    unfold methodCallForm
    rw [star_all hs]
    show (true && true && decide (es.length + 0 + 0 < 30)) = true
    rw [decide_eq_true (by omega)]
    rfl) hl]
  exact wpAny_bind (wpAny_holding (wpAny_mono h1 (fun fx s2 h2 => h2) fun _ _ x => x))
end
section
variable {g : G} {C : Cx1} {X : Cx} {bk : Bool} {sc : Scope} {cl : ClF} {k j : Nat} {ih : Ih} {pins : List (Addr × Obj)} {σ : L2.St} {H H1 : Hp} {s : Shared} {ρ ρ1 : List Addr} {S S1 : Sto} {σd : Env1} {d : D} {Q : VK}
/-! ### rows of values with their state -/
theorem run_e (Ie : IhE g X bk sc cl ih) (I : Inv X pins σ H s) (M : Sim g (cl σd σ) ρ S H σd σ) {a : Expr} (e : ih.e bk sc a σd S = some (d, S1)) :
    wpAny (model X.prog X.w) X.A (eval a X.env) (fun u s1 => ∃ v H1 ρ1, Inv X pins σ H1 s1 ∧ RelV v u ∧ Pre ρ ρ1 ∧ Le H H1 ∧ Sim g (cl σd σ) ρ1 S1 H1 σd σ ∧ DV g ρ1 H1 (cl σd σ) d v) X.xe s :=
  thn ((Ie.e a).run pins s σ H (fun v H1 => ∃ ρ1, Pre ρ ρ1 ∧ Le H H1 ∧ Sim g (cl σd σ) ρ1 S1 H1 σd σ ∧ DV g ρ1 H1 (cl σd σ) d v) I ⟨ρ, σd, S, d, S1, M, e, fun ρ' H' v p l M' d' => ⟨ρ', p, l, M', d'⟩⟩)
    fun u s1 ⟨v, H1, I1, r, ρ1, p, l, M1, d1⟩ => ⟨v, H1, ρ1, I1, r, p, l, M1, d1⟩
theorem run_as (hst : ∀ x p, ih.e bk sc (.Starred x p) = fun _ _ => none) (Ie : IhE g X bk sc cl ih) (I : Inv X pins σ H s) (M : Sim g (cl σd σ) ρ S H σd σ) {as : List Expr} {pos : Pos} {ds : List D} (e : evs ih bk sc as σd S = some (ds, S1)) :
    wpAny (model X.prog X.w) X.A (spliced (backTo pos (starEach as X.env))) (fun us s1 => ∃ vs H1 ρ1, Inv X pins σ H1 s1 ∧ Vals vs us ∧ Pre ρ ρ1 ∧ Le H H1 ∧ Sim g (cl σd σ) ρ1 S1 H1 σd σ ∧ DVs g ρ1 H1 (cl σd σ) ds vs) X.xe s :=
  thn ((a_evs Ie hst as).1.run pos pins s σ H (fun vs H1 => ∃ ρ1, Pre ρ ρ1 ∧ Le H H1 ∧ Sim g (cl σd σ) ρ1 S1 H1 σd σ ∧ DVs g ρ1 H1 (cl σd σ) ds vs) I ⟨ρ, σd, S, ds, S1, M, e, fun ρ' H' v p l M' d' => ⟨ρ', p, l, M', d'⟩⟩)
    fun u s1 ⟨v, H1, I1, r, ρ1, p, l, M1, d1⟩ => ⟨v, H1, ρ1, I1, r, p, l, M1, d1⟩
theorem run_ks (Ie : IhE g X bk sc cl ih) {pos : Pos} : ∀ {ks : List Keyword} {s : Shared} {H : Hp} {ρ : List Addr} {S : Sto} {kws : List (Str × D)}, Inv X pins σ H s → Sim g (cl σd σ) ρ S H σd σ → evKs ih bk sc ks σd S = some (kws, S1) →
    ((backToKw pos (keywordEach ks X.env)).all (·.1.isSome) = true ∧ (backToKw pos (keywordEach ks X.env)).filterMap (·.1) = kws.map (·.1) ∧ (backToKw pos (keywordEach ks X.env)).any (·.1.isNone) = false) ∧
    wpAny (model X.prog X.w) X.A (evalAll ((backToKw pos (keywordEach ks X.env)).map (·.2))) (fun us s1 => ∃ vs H1 ρ1, Inv X pins σ H1 s1 ∧ Vals vs us ∧ Pre ρ ρ1 ∧ Le H H1 ∧ Sim g (cl σd σ) ρ1 S1 H1 σd σ ∧ DVs g ρ1 H1 (cl σd σ) (kws.map (·.2)) vs) X.xe s
  | [], s, H, ρ, S, kws, I, M, e => by
    cases e
    exact ⟨⟨rfl, rfl, rfl⟩, wpAny_evalAll_nil ⟨[], H, ρ, I, .nil, Pre.refl _, Le.refl _, M, rfl⟩⟩
  | ⟨o, a, kp⟩ :: r, s, H, ρ, S, kws, I, M, e => by
    obtain ⟨n, ho, e0⟩ := opt_some (show opt o (fun n => bnd (ih.e bk sc a σd S) fun d S1 => bnd (evKs ih bk sc r σd S1) fun ds S2 => some ((n, d) :: ds, S2)) = some (kws, S1) from e)
    subst ho
    obtain ⟨d, Sa, e1, e0⟩ := bnd_some e0
    obtain ⟨q, Sb, e2, e0⟩ := bnd_some e0
    cases e0
    refine ⟨?_, ?_⟩
    · have stat : (backToKw pos (keywordEach r X.env)).all (·.1.isSome) = true ∧ (backToKw pos (keywordEach r X.env)).filterMap (·.1) = q.map (·.1) ∧ (backToKw pos (keywordEach r X.env)).any (·.1.isNone) = false := by
        have key : ∀ (r : List Keyword) (Sa : Sto) (q : List (Str × D)), evKs ih bk sc r σd Sa = some (q, S1) → (backToKw pos (keywordEach r X.env)).all (·.1.isSome) = true ∧ (backToKw pos (keywordEach r X.env)).filterMap (·.1) = q.map (·.1) ∧ (backToKw pos (keywordEach r X.env)).any (·.1.isNone) = false := by
          intro r
          induction r with
          | nil =>
            intro Sa q e
            cases e
            exact ⟨rfl, rfl, rfl⟩
          | cons kw r ihr =>
            intro Sa q e
            obtain ⟨o, a, kp⟩ := kw
            obtain ⟨n, ho, e0⟩ := opt_some (show opt o (fun n => bnd (ih.e bk sc a σd Sa) fun d S1 => bnd (evKs ih bk sc r σd S1) fun ds S2 => some ((n, d) :: ds, S2)) = some (q, S1) from e)
            subst ho
            obtain ⟨d, Sc, e1, e0⟩ := bnd_some e0
            obtain ⟨q', Sd, e2, e0⟩ := bnd_some e0
            cases e0
            obtain ⟨a1, a2, a3⟩ := ihr _ _ e2
            refine ⟨?_, ?_, ?_⟩
            · show (true && (backToKw pos (keywordEach r X.env)).all (·.1.isSome)) = true
              rw [a1]
              rfl
            · show n :: (backToKw pos (keywordEach r X.env)).filterMap (·.1) = _
              rw [a2]
              rfl
            · show (false || (backToKw pos (keywordEach r X.env)).any (·.1.isNone)) = false
              rw [a3]
              rfl
        exact key r Sa q e2
      obtain ⟨a1, a2, a3⟩ := stat
      refine ⟨?_, ?_, ?_⟩
      · show (true && (backToKw pos (keywordEach r X.env)).all (·.1.isSome)) = true
        rw [a1]
        rfl
      · show n :: (backToKw pos (keywordEach r X.env)).filterMap (·.1) = _
        rw [a2]
        rfl
      · show (false || (backToKw pos (keywordEach r X.env)).any (·.1.isNone)) = false
        rw [a3]
        rfl
    · show wpAny _ _ (evalAll ((do let v ← eval a X.env; standAt pos; pure v) :: (backToKw pos (keywordEach r X.env)).map (·.2))) _ _ s
      refine wpAny_evalAll_cons (wpAny_bind (thn (run_e Ie I M e1) fun u s1 ⟨v, H1, ρ1, I1, r1, p1, l1, M1, d1⟩ => wpAny_bind (wpAny_standAt (wpAny_pure ?_))))
      exact thn (run_ks Ie (ks := r) I1 M1 e2).2 fun us s2 ⟨vs, H2, ρ2, I2, r2, p2, l2, M2, d2⟩ => ⟨v :: vs, H2, ρ2, I2, .cons r1 r2, p1.trans p2, l1.trans l2, M2, .cons (d1.mono p2 l2 fun _ _ z => z) d2⟩
theorem EP_done (q : ∀ ρ' H' v, Pre ρ ρ' → Le H H' → Sim g (cl σd σ) ρ' S1 H' σd σ → DV g ρ' H' (cl σd σ) d v → Q v H') (p : Pre ρ ρ1) (l : Le H H1) {u : Value} {s1 : Shared} (h : EP X pins σ (fun v H' => ∃ ρ', Pre ρ1 ρ' ∧ Le H1 H' ∧ Sim g (cl σd σ) ρ' S1 H' σd σ ∧ DV g ρ' H' (cl σd σ) d v) u s1) : EP X pins σ Q u s1 := by
  obtain ⟨v, H', I', r, ρ', p', l', M', d'⟩ := h
  exact ⟨v, H', I', r, q ρ' H' v (p.trans p') (l.trans l') M' d'⟩
/-! ### what the module has to call -/
def isGcd : BltK → Bool
  | .gcd => true
  | _ => false
structure FactsC (g : G) (P : Prog1) : Prop where
  defs : ∀ x, hasK x P.defs = true → (x == ("__debug__" : Str)) = false ∧ ∃ f, g.mg x = some (.ref f) ∧ PySem.W.keepIn g.K (.ref f) = true
  clss : ∀ x ms, look x P.clss = some ms → hasK "__init__" ms = true → (x == ("__debug__" : Str)) = false ∧ ∃ Ca f, g.mg x = some (.ref Ca) ∧ Mk g.K Ca f ∧ Meth g.K Ca "__init__" f
  meth : ∀ c ms m Ca, look c P.clss = some ms → hasK m ms = true → g.mg c = some (.ref Ca) → Cls g.K Ca ∧ ∃ f, Meth g.K Ca m f
  blt : ∀ x b, look x blts = some b → hasK x P.defs = false → look x P.clss = none → hasK x P.csts = false → g.mg x = match isGcd b with
    | true => some (.builtin "math.gcd")
    | false => none
theorem look_mem {α : Type} {x : Str} {b : α} : ∀ {l : List (Str × α)}, look x l = some b → (x, b) ∈ l
  | [], h => by cases h
  | p :: r, h => by
    have h : (match eqS p.1 x with | true => some p.2 | false => look x r) = some b := h
    cases e : eqS p.1 x with
    | true =>
      rw [e] at h
      cases h
      rw [← eqS_iff.mp e]
      exact List.mem_cons_self
    | false =>
      rw [e] at h
      exact List.mem_cons_of_mem _ (look_mem h)
/-- the object of a built-in -/
def bltVal (x : Str) : BltK → Value
  | .one nm => .builtin nm
  | .ty T => .type T
  | .isi => .builtin "isinstance"
  | .gcd => .builtin "math.gcd"
  | .max => .builtin "max"
theorem blt_ok (Gd : Good g C X bk sc cl k) (hset : CallR X (.type "set") (rCB g (on1 (bTy1 "set")))) {x : Str} {b : BltK} (h : look x blts = some b) :
    CallR X (bltVal x b) (rCB g (bltK b)) ∧ (isGcd b = false → bootBuiltins x = some (bltVal x b)) ∧ (x ≠ "__name__" ∧ (x == ("__debug__" : Str)) = false) ∧ ((∃ id, bltVal x b = .builtin id) ∨ ∃ T, bltVal x b = .type T) := by
  have hm := look_mem h
  simp only [blts, List.mem_cons, Prod.mk.injEq, List.mem_nil_iff, or_false] at hm
  have hc := Gd.calm
  have hK := Gd.K
  have hr := Gd.room
  rcases hm with ⟨rfl, rfl⟩ | ⟨rfl, rfl⟩ | ⟨rfl, rfl⟩ | ⟨rfl, rfl⟩ | ⟨rfl, rfl⟩ | ⟨rfl, rfl⟩ | ⟨rfl, rfl⟩ | ⟨rfl, rfl⟩ | ⟨rfl, rfl⟩ | ⟨rfl, rfl⟩ | ⟨rfl, rfl⟩ | ⟨rfl, rfl⟩ | ⟨rfl, rfl⟩ | ⟨rfl, rfl⟩ | ⟨rfl, rfl⟩
  · exact ⟨b_isi hK, fun _ => by decide +kernel, ⟨by decide, by decide⟩, .inl ⟨_, rfl⟩⟩
  · exact ⟨b_len hK, fun _ => by decide +kernel, ⟨by decide, by decide⟩, .inl ⟨_, rfl⟩⟩
  · exact ⟨b_tuple hK, fun _ => by decide +kernel, ⟨by decide, by decide⟩, .inr ⟨_, rfl⟩⟩
  · exact ⟨b_abs, fun _ => by decide +kernel, ⟨by decide, by decide⟩, .inl ⟨_, rfl⟩⟩
  · exact ⟨b_all hc, fun _ => by decide +kernel, ⟨by decide, by decide⟩, .inl ⟨_, rfl⟩⟩
  · exact ⟨b_any hc, fun _ => by decide +kernel, ⟨by decide, by decide⟩, .inl ⟨_, rfl⟩⟩
  · exact ⟨b_sum hc hK, fun _ => by decide +kernel, ⟨by decide, by decide⟩, .inl ⟨_, rfl⟩⟩
  · exact ⟨b_maxAny hc, fun _ => by decide +kernel, ⟨by decide, by decide⟩, .inl ⟨_, rfl⟩⟩
  · exact ⟨b_min hc, fun _ => by decide +kernel, ⟨by decide, by decide⟩, .inl ⟨_, rfl⟩⟩
  · exact ⟨b_sorted hc Gd.P Gd.w hK hr, fun _ => by decide +kernel, ⟨by decide, by decide⟩, .inl ⟨_, rfl⟩⟩
  · exact ⟨b_gcd, fun z => (by cases z), ⟨by decide, by decide⟩, .inl ⟨_, rfl⟩⟩
  · exact ⟨b_list hc hK, fun _ => by decide +kernel, ⟨by decide, by decide⟩, .inr ⟨_, rfl⟩⟩
  · exact ⟨b_int, fun _ => by decide +kernel, ⟨by decide, by decide⟩, .inr ⟨_, rfl⟩⟩
  · exact ⟨b_str, fun _ => by decide +kernel, ⟨by decide, by decide⟩, .inr ⟨_, rfl⟩⟩
  · exact ⟨hset, fun _ => by decide +kernel, ⟨by decide, by decide⟩, .inr ⟨_, rfl⟩⟩
/-! ### calls -/
theorem mth_all (Gd : Good g C X bk sc cl k) {kd : MK} {m : Str} {o : D} {as : List D} {r : D × Sto} (h : mthD kd m o as S = some r) : ∃ id, MthAt g X kd m id := by
  have hK := Gd.K
  have hr := Gd.room
  cases kd with
  | int =>
    unfold mthD at h
    dsimp only at h
    split at h
    · rw [eqS_iff.mp (grd_some h).1]
      exact ⟨_, m_bits⟩
    · cases h
  | tup =>
    unfold mthD at h
    dsimp only at h
    split at h
    · rw [eqS_iff.mp (grd_some h).1]
      exact ⟨_, m_index hK hr⟩
    · cases h
  | str =>
    unfold mthD at h
    dsimp only at h
    split at h
    · unfold mthStr at h
      split at h
      · cases h1 : eqS m "join" with
        | true =>
          rw [eqS_iff.mp h1]
          exact ⟨_, m_join⟩
        | false =>
          rw [h1] at h
          obtain ⟨t, _, h⟩ := opt_some h
          cases h2 : eqS m "split" with
          | true =>
            rw [eqS_iff.mp h2]
            exact ⟨_, m_split⟩
          | false =>
            rw [h2] at h
            cases h3 : eqS m "strip" with
            | true =>
              rw [eqS_iff.mp h3]
              exact ⟨_, m_strip⟩
            | false =>
              rw [h3] at h
              cases h
      · cases h
    · cases h
  | lst =>
    unfold mthD at h
    dsimp only at h
    split at h
    · obtain ⟨ds, _, h⟩ := opt_some h
      split at h
      · rw [eqS_iff.mp (grd_some h).1]
        exact ⟨_, m_append⟩
      · rw [eqS_iff.mp (grd_some h).1]
        exact ⟨_, m_reverse⟩
      · cases h
    · cases h
  | dct =>
    unfold mthD at h
    dsimp only at h
    split at h
    · obtain ⟨ob, _, h⟩ := opt_some h
      split at h
      · split at h
        · rw [eqS_iff.mp (grd_some h).1]
          exact ⟨_, m_dget Gd.P Gd.w hK hr⟩
        · cases h
      · cases h
    · cases h
theorem FsR.none {c : Cl} {m : Str} : ∀ {fs : List (Str × D)} {fvs : List (Str × V)}, FsR g ρ H c fs fvs → hasK m fs = false → fvs.lookup m = none
  | [], _, h, _ => by
    have h : _ = [] := h
    subst h
    rfl
  | p :: r, _, ⟨v, q, e, _, h⟩, hn => by
    subst e
    unfold hasK at hn
    rw [look] at hn
    cases he : eqS p.1 m with
    | true =>
      rw [he] at hn
      cases hn
    | false =>
      rw [he] at hn
      have hne : (m == p.1) = false := beq_eq_false_iff_ne.mpr (Ne.symm (eqS_ne he))
      rw [List.lookup_cons, hne]
      exact FsR.none h hn
/-- a lambda's object -/
theorem lam_at {c : Cl} {a : Addr} {l : Lam} {vs : List V} (I : Inv X pins σ H s) (h : LamAt H c a l vs) : PySem.W.FnAt a s.heap := by
  obtain ⟨o, cells, c', oc, pm, ctv, uc, h1, h2, _⟩ := h.at_
  have e := (I.hok a _ h1).1
  subst h2
  exact ⟨_, _, _, _, e⟩
/-- a new instance -/
theorem call_make (Gd : Good g C X bk sc cl k) (hk : 2 * j + 1 ≤ k) (Ck : CallOk g C.P j C.call) (I : Inv X pins σ H s) (M : Sim g (cl σd σ) ρ S H σd σ) {c : Str} {Ca f : Addr} {ds : List D} {vs : List V} {us : List Value} (hg : g.mg c = some (.ref Ca)) (Mk1 : Mk g.K Ca f) (Me : Meth g.K Ca "__init__" f)
    (e : C.call (.meth c "__init__") (.loc S.length :: ds) [] (S ++ [.ins c []]) = some (.non, S1)) (hp : DVs g ρ H (cl σd σ) ds vs) (r : Vals vs us) :
    wpAny (model X.prog X.w) X.A (call (.ref Ca) us) (EP X pins σ (fun v H' => ∃ ρ', Pre ρ ρ' ∧ Le H H' ∧ Sim g (cl σd σ) ρ' S1 H' σd σ ∧ DV g ρ' H' (cl σd σ) (.loc S.length) v)) X.xe s := by
  have I2 := Inv.made (C := Ca) I
  have hn0 : H s.heap.objs.size = none := I.hok.fresh (Nat.le_refl _)
  have hn1 : upd H s.heap.objs.size (.own (s.heap.objs.size + 1)) (s.heap.objs.size + 1) = none := by
    rw [upd_ne (Nat.ne_of_gt (Nat.lt_succ_self _))]
    exact I.hok.fresh (Nat.le_succ _)
  have M1 := M.new (o := .own (s.heap.objs.size + 1)) hn0
  have M2 : Sim g (cl σd σ) (ρ ++ [s.heap.objs.size + 1]) (S ++ [.ins c []]) (upd (upd H s.heap.objs.size (.own (s.heap.objs.size + 1))) (s.heap.objs.size + 1) (.ins Ca s.heap.objs.size [])) σd σ := M1.push hn1 ⟨Ca, s.heap.objs.size, [], hg, upd_same, rfl⟩
  have l2 : Le H (upd (upd H s.heap.objs.size (.own (s.heap.objs.size + 1))) (s.heap.objs.size + 1) (.ins Ca s.heap.objs.size [])) := (le_new hn0).trans (le_new hn1)
  have hloc : (ρ ++ [s.heap.objs.size + 1])[S.length]? = some (s.heap.objs.size + 1) := by
    rw [List.getElem?_append_right (by rw [M.rel.len]; exact Nat.le_refl _), M.rel.len, Nat.sub_self]
    rfl
  have hp2 : DVs g (ρ ++ [s.heap.objs.size + 1]) (upd (upd H s.heap.objs.size (.own (s.heap.objs.size + 1))) (s.heap.objs.size + 1) (.ins Ca s.heap.objs.size [])) (cl σd σ) (.loc S.length :: ds) (.ref (s.heap.objs.size + 1) :: vs) :=
    .cons ⟨_, hloc, rfl⟩ (hp.mono ⟨_, rfl⟩ l2 fun _ _ z => z)
  have kc := Gd.cells (σd := σd) I2
  have mv := trk_mv kc
  have rc := Ck.ok (.meth c "__init__") (.loc S.length :: ds) [] _ S1 .non e (X.A.under (.builtin "type.__call__" ⟨.ref Ca :: us, []⟩)) X.stack _ (trkH (cl σd σ) _ _) (ρ ++ [s.heap.objs.size + 1]) f (.ref (s.heap.objs.size + 1) :: vs) [] (.ref (s.heap.objs.size + 1) :: us) []
    ((Gd.room.mono hk).make Ca us []) ((Gd.env0 (σd := σd) I2).make Ca us []) (M2.rel.mv mv) ⟨Ca, hg, Me⟩ (DVs.mv mv _ hp2) rfl (.cons rfl r) .nil
  rw [← Gd.P, ← Gd.w] at rc
  have hK := Gd.K
  refine wpAny_call (make_map (f := f) I.kIn (by rw [hK]; exact Mk1.makes) (by rw [hK]; exact Mk1.init) (beq_iff_eq.mp (by rw [hK]; exact Mk1.fn)) (codeAny_mono rc fun r s' hq' => ?_))
  cases r with
  | error e => exact False.elim hq'
  | ok fl =>
    cases fl with
    | ret u =>
      obtain ⟨v, H', I3, rv, ρ', p3, l3, M3, d3⟩ := Gd.after I2 M2 hq'
      have d3 : v = .non := d3
      subst d3
      exact ⟨rv, ⟨V.ref (s.heap.objs.size + 1), H', I3, rfl, ρ', Pre.trans ⟨_, rfl⟩ p3, l2.trans l3, M3, ⟨_, p3.get hloc, rfl⟩⟩⟩
    | next => exact False.elim hq'
    | brk => exact False.elim hq'
    | cont => exact False.elim hq'
theorem isN_eq {d : D} (h : isN d = true) : d = .non := by
  cases d <;> first | rfl | cases h
theorem evs_star (hst : ∀ x p, ih.e bk sc (.Starred x p) = fun _ _ => none) : ∀ {as : List Expr} {S : Sto} {r : List D × Sto}, evs ih bk sc as σd S = some r → NoStar as
  | [], _, _, _, x, p, hm => by cases hm
  | a :: as, S, r, e, x, p, hm => by
    obtain ⟨d, Sa, e1, e⟩ := bnd_some (show bnd (ih.e bk sc a σd S) (fun d S1 => bnd (evs ih bk sc as σd S1) fun ds S2 => some (d :: ds, S2)) = some r from e)
    obtain ⟨xs, Sb, e2, e⟩ := bnd_some e
    rcases List.mem_cons.mp hm with z | z
    · rw [← z, hst] at e1
      cases e1
    · exact evs_star hst e2 x p z
/-! the kinds of calls -/
structure CallCx (g : G) (C : Cx1) (X : Cx) (bk : Bool) (sc : Scope) (cl : ClF) (k j : Nat) (ih : Ih) : Prop where
  Gd : Good g C X bk sc cl k
  hk : 2 * j + 1 ≤ k
  Ck : CallOk g C.P j C.call
  F : Facts g C.P
  Fc : FactsC g C.P
  hst : ∀ x p, ih.e bk sc (.Starred x p) = fun _ _ => none
  Ie : IhE g X bk sc cl ih
  hset : CallR X (.type "set") (rCB g (on1 (bTy1 "set")))
section
variable (K : CallCx g C X bk sc cl k j ih) (I : Inv X pins σ H s) (M : Sim g (cl σd σ) ρ S H σd σ)
include K
theorem CallCx.hk2 : 2 * j ≤ k := by
  have := K.hk
  omega
include I M
/-- the callee is known in the frame; positional values -/
theorem cw_fn {pos : Pos} {fn : Fn} {f : Addr} {as : List Expr} {ds ds0 : List D} {vs0 : List V} {us0 : List Value} {S0 : Sto}
    (q : ∀ ρ' H' v, Pre ρ ρ' → Le H H' → Sim g (cl σd σ) ρ' S1 H' σd σ → DV g ρ' H' (cl σd σ) d v → Q v H') (e1 : evs ih bk sc as σd S = some (ds, S0)) (e2 : C.call fn (ds0 ++ ds) [] S0 = some (d, S1)) (hds : DVs g ρ H (cl σd σ) ds0 vs0) (r0 : Vals vs0 us0)
    {P : Heap → Prop} (hkp : ∀ h, P h → ∃ k, (k = Keeper.frame ∨ k = Keeper.machine ∨ k = Keeper.boundFrame) ∧ PySem.W.Looks (model X.prog X.w) h (keeperOf (.ref f)) k)
    (hP : ∀ H1 s1, Inv X pins σ H1 s1 → Le H H1 → P s1.heap) (hf : ∀ (ρ1 : List Addr) (H1 : Hp) (s1 : Shared), Inv X pins σ H1 s1 → Pre ρ ρ1 → Le H H1 → FnV g ρ1 (trkH (cl σd σ) s1 H1) fn f) :
    wpAny (model X.prog X.w) X.A (callWith pos (.ref f) us0 (backTo pos (starEach as X.env)) []) (EP X pins σ Q) X.xe s := by
  refine cw_keep hkp (evs_star K.hst e1) (thn (run_as K.hst K.Ie I M e1) fun us s1 ⟨vs, H1, ρ1, I1, r1, p1, l1, M1, d1⟩ => ⟨hP H1 s1 I1 l1, ?_⟩)
  exact thn (call_run (zs := []) (kws := []) (ws := []) K.Gd K.hk2 K.Ck I1 M1 e2 (hf ρ1 H1 s1 I1 p1 l1) ((hds.mono p1 l1 fun _ _ z => z).append d1) rfl (r0.append r1) .nil) fun u s2 h2 => EP_done q p1 l1 h2
theorem c_fn {x : Str} {p pos : Pos} {as : List Expr} (hg : isGlo sc x = true) (hd : hasK x C.P.defs = true) (e : (bnd (evs ih bk sc as σd S) fun ds S1 => C.call (.fn x) ds [] S1) = some (d, S1))
    (q : ∀ ρ' H' v, Pre ρ ρ' → Le H H' → Sim g (cl σd σ) ρ' S1 H' σd σ → DV g ρ' H' (cl σd σ) d v → Q v H') : wpAny (model X.prog X.w) X.A (eval (.Call (.Name x p) as [] pos) X.env) (EP X pins σ Q) X.xe s := by
  obtain ⟨ds, S0, e1, e2⟩ := bnd_some e
  obtain ⟨hdb, f, hm, hkp⟩ := K.Fc.defs x hd
  refine wpAny_Call_Name_kw (ld_glob I (K.Gd.scr.glo x hg) (by rw [K.Gd.mg]; exact hm) ?_ hdb)
  exact cw_fn K I M (P := X.K.In) (ds0 := []) (vs0 := []) (us0 := []) (fn := .fn x) q e1 e2 rfl .nil (PySem.W.keeps_K (by rw [K.Gd.K]; exact hkp)) (fun H1 s1 I1 _ => I1.kIn) fun _ _ _ _ _ _ => hm
theorem c_kw {x : Str} {p pos : Pos} {ks : List Keyword} (hg : isGlo sc x = true) (hd : hasK x C.P.defs = true) (e : (bnd (evKs ih bk sc ks σd S) fun kws S1 => C.call (.fn x) [] kws S1) = some (d, S1))
    (q : ∀ ρ' H' v, Pre ρ ρ' → Le H H' → Sim g (cl σd σ) ρ' S1 H' σd σ → DV g ρ' H' (cl σd σ) d v → Q v H') : wpAny (model X.prog X.w) X.A (eval (.Call (.Name x p) [] ks pos) X.env) (EP X pins σ Q) X.xe s := by
  obtain ⟨kws, S0, e1, e2⟩ := bnd_some e
  obtain ⟨hdb, f, hm, hkp⟩ := K.Fc.defs x hd
  refine wpAny_Call_Name_kw (ld_glob I (K.Gd.scr.glo x hg) (by rw [K.Gd.mg]; exact hm) ?_ hdb)
  obtain ⟨⟨a1, a2, a3⟩, w⟩ := run_ks K.Ie (pos := pos) (ks := ks) I M e1
  refine PySem.W.callWith_KW0 (h₀ := X.base) (first := []) I.ok.mod.kin (by rw [K.Gd.K]; exact hkp) a1 (thn w fun us s1 ⟨vs, H1, ρ1, I1, r1, p1, l1, M1, d1⟩ => ⟨I1.kIn, ?_⟩) (by rw [a3]; rfl)
  rw [a2]
  exact thn (call_run (pos := []) (fn := .fn x) (vs := []) (us := []) K.Gd K.hk2 K.Ck I1 M1 e2 hm rfl d1 .nil r1) fun u s2 h2 => EP_done q p1 l1 h2
theorem c_make {x : Str} {p pos : Pos} {as : List Expr} {ms : List (Str × Def1)} (hg : isGlo sc x = true) (hl : look x C.P.clss = some ms) (hi : hasK "__init__" ms = true)
    (e : (bnd (evs ih bk sc as σd S) fun ds S1 => bnd (C.call (.meth x "__init__") (.loc S1.length :: ds) [] (S1 ++ [.ins x []])) fun d S2 => grd (isN d) (some (D.loc S1.length, S2))) = some (d, S1))
    (q : ∀ ρ' H' v, Pre ρ ρ' → Le H H' → Sim g (cl σd σ) ρ' S1 H' σd σ → DV g ρ' H' (cl σd σ) d v → Q v H') : wpAny (model X.prog X.w) X.A (eval (.Call (.Name x p) as [] pos) X.env) (EP X pins σ Q) X.xe s := by
  obtain ⟨ds, S0, e1, e⟩ := bnd_some e
  obtain ⟨d2, S2, e2, e⟩ := bnd_some e
  obtain ⟨hn, e⟩ := grd_some e
  cases e
  have hn := isN_eq hn
  subst hn
  obtain ⟨hdb, Ca, f, hm, mk, me⟩ := K.Fc.clss x ms hl hi
  refine wpAny_Call_Name_kw (ld_glob I (K.Gd.scr.glo x hg) (by rw [K.Gd.mg]; exact hm) ?_ hdb)
  refine cw_keep (first := []) (PySem.W.keeps_K (K := X.K) (by rw [K.Gd.K]; exact mk.kp)) (evs_star K.hst e1) (thn (run_as K.hst K.Ie I M e1) fun us s1 ⟨vs, H1, ρ1, I1, r1, p1, l1, M1, d1⟩ => ⟨I1.kIn, ?_⟩)
  exact thn (call_make K.Gd K.hk K.Ck I1 M1 hm mk me e2 d1 r1) fun u s2 h2 => EP_done q p1 l1 h2
theorem c_blt {x : Str} {p pos : Pos} {as : List Expr} (hg : isGlo sc x = true) (h1 : hasK x C.P.defs = false) (h2 : look x C.P.clss = none) (h3 : hasK x C.P.csts = false) (e : (bnd (evs ih bk sc as σd S) fun ds S1 => bltD x ds S1) = some (d, S1))
    (q : ∀ ρ' H' v, Pre ρ ρ' → Le H H' → Sim g (cl σd σ) ρ' S1 H' σd σ → DV g ρ' H' (cl σd σ) d v → Q v H') : wpAny (model X.prog X.w) X.A (eval (.Call (.Name x p) as [] pos) X.env) (EP X pins σ Q) X.xe s := by
  obtain ⟨ds, S0, e1, e⟩ := bnd_some e
  obtain ⟨b, e2, e⟩ := opt_some e
  obtain ⟨cr, hb, ⟨hn, hdb⟩, ht⟩ := blt_ok K.Gd K.hset e2
  have hm := K.Fc.blt x b e2 h1 h2 h3
  have ld : ∀ {R : Value → Shared → Prop}, R (bltVal x b) s → wpAny (model X.prog X.w) X.A (eval (.Name x p) X.env) R X.xe s := fun {R} hR => by
    cases hgc : isGcd b with
    | true =>
      rw [hgc] at hm
      have : bltVal x b = .builtin "math.gcd" := by
        cases b <;> first | rfl | cases hgc
      rw [this] at hR
      exact ld_glob I (K.Gd.scr.glo x hg) (by rw [K.Gd.mg]; exact hm) hR hdb
    | false =>
      rw [hgc] at hm
      exact ld_blt I (K.Gd.scr.glo x hg) (by rw [K.Gd.mg]; exact hm) (hb hgc) hR hn hdb
  have fin : ∀ {us : List Value} {s1 : Shared}, (∃ vs H1 ρ1, Inv X pins σ H1 s1 ∧ Vals vs us ∧ Pre ρ ρ1 ∧ Le H H1 ∧ Sim g (cl σd σ) ρ1 S0 H1 σd σ ∧ DVs g ρ1 H1 (cl σd σ) ds vs) → wpAny (model X.prog X.w) X.A (call (bltVal x b) us) (EP X pins σ Q) X.xe s1 := by
    rintro us s1 ⟨vs, H1, ρ1, I1, r1, p1, l1, M1, d1⟩
    exact cr pins s1 σ H1 vs us Q I1 r1 ⟨cl σd σ, ρ1, S0, σd, σ, ds, d, S1, M1, d1, e, ⟨fun ρ' H' v p' l' M' d' => q ρ' H' v (p1.trans p') (l1.trans l') M' d'⟩⟩
  refine wpAny_Call_Name_kw (ld ?_)
  rcases ht with ⟨id, ht⟩ | ⟨T, ht⟩
  · rw [ht] at fin ⊢
    exact cw_blt (first := []) (evs_star K.hst e1) (thn (run_as K.hst K.Ie I M e1) fun us s1 h => fin h)
  · rw [ht] at fin ⊢
    exact cw_ty (evs_star K.hst e1) (thn (run_as K.hst K.Ie I M e1) fun us s1 h => fin h)
theorem c_own {x : Str} {p pos : Pos} {as : List Expr} (ho : isOwn sc x = true) (e : (opt (getVar C.N x σd) fun g => bnd (evs ih bk sc as σd S) fun ds S1 => callV C g ds S1) = some (d, S1))
    (q : ∀ ρ' H' v, Pre ρ ρ' → Le H H' → Sim g (cl σd σ) ρ' S1 H' σd σ → DV g ρ' H' (cl σd σ) d v → Q v H') : wpAny (model X.prog X.w) X.A (eval (.Call (.Name x p) as [] pos) X.env) (EP X pins σ Q) X.xe s := by
  obtain ⟨dx, e0, e⟩ := opt_some e
  obtain ⟨ds, S0, e1, e2⟩ := bnd_some e
  have en : (opt (evName C.P C.N sc x σd) fun d => some (d, S)) = some (dx, S) := by
    unfold evName
    rw [ho]
    show opt (getVar C.N x σd) (fun d => some (d, S)) = some (dx, S)
    rw [e0]
    rfl
  refine wpAny_Call_Name_kw (thn ((e_name K.F K.Gd (x := x) (pos := p)).run pins s σ H (fun v H1 => ∃ ρ1, Pre ρ ρ1 ∧ Le H H1 ∧ Sim g (cl σd σ) ρ1 S H1 σd σ ∧ DV g ρ1 H1 (cl σd σ) dx v) I ⟨ρ, σd, S, dx, S, M, en, fun ρ' H' v p l M' d' => ⟨ρ', p, l, M', d'⟩⟩) fun u s1 ⟨v, H1, I1, r1, ρ1, p1, l1, M1, d1⟩ => ?_)
  have q1 : ∀ ρ' H' v, Pre ρ1 ρ' → Le H1 H' → Sim g (cl σd σ) ρ' S1 H' σd σ → DV g ρ' H' (cl σd σ) d v → Q v H' := fun ρ' H' v p' l' M' d' => q ρ' H' v (p1.trans p') (l1.trans l') M' d'
  cases dx with
  | lam l caps =>
    have e2 : C.call (.lam l caps) ds [] S0 = some (d, S1) := e2
    have d1' := d1
    obtain ⟨a, vs, rfl, h2, h3⟩ := d1
    cases r1
    refine cw_fn K I1 M1 (P := PySem.W.FnAt a) (ds0 := []) (vs0 := []) (us0 := []) (fn := .lam l caps) q1 e1 e2 rfl .nil PySem.W.keeps_F (fun H2 s2 I2 l2 => lam_at I2 (h2.mono l2 fun _ _ z => z)) fun ρ2 H2 s2 I2 p2 l2 => ?_
    exact DV.mv (trk_mv (K.Gd.cells (σd := σd) I2)) (.lam l caps) (d1'.mono p2 l2 fun _ _ z => z)
  | glo y =>
    have e2 : C.call (.fn y) ds [] S0 = some (d, S1) := e2
    obtain ⟨a, hm, rfl⟩ := d1
    cases r1
    obtain ⟨_, f, hm', hkp⟩ := K.Fc.defs y (K.Ck.dom (.fn y) _ _ _ _ e2)
    rw [hm] at hm'
    cases hm'
    exact cw_fn K I1 M1 (P := X.K.In) (ds0 := []) (vs0 := []) (us0 := []) (fn := .fn y) q1 e1 e2 rfl .nil (PySem.W.keeps_K (by rw [K.Gd.K]; exact hkp)) (fun H1 s1 I1 _ => I1.kIn) fun _ _ _ _ _ _ => hm
  | _ => cases e2
theorem c_meth {o : Expr} {m : Str} {ap pos : Pos} {as : List Expr} (e : (grd (!isCallE o && Nat.beq ap.endLine pos.line && Nat.blt as.length 20) (bnd (ih.e bk sc o σd S) fun d S1 => match clsAt S1 d with
      | some p => grd (!hasK m p.2) (bnd (evs ih bk sc as σd S1) fun ds S2 => C.call (.meth p.1 m) (d :: ds) [] S2)
      | none => opt (mkOf S1 d) fun k => bnd (evs ih bk sc as σd S1) fun ds S2 => mthD k m d ds S2)) = some (d, S1))
    (q : ∀ ρ' H' v, Pre ρ ρ' → Le H H' → Sim g (cl σd σ) ρ' S1 H' σd σ → DV g ρ' H' (cl σd σ) d v → Q v H') : wpAny (model X.prog X.w) X.A (eval (.Call (.Attribute o m ap) as [] pos) X.env) (EP X pins σ Q) X.xe s := by
  obtain ⟨hc, e⟩ := grd_some e
  obtain ⟨hc, hlen⟩ := Bool.and_eq_true_iff.mp hc
  obtain ⟨hc, hline⟩ := Bool.and_eq_true_iff.mp hc
  have hc : isCallE o = false := by simpa using hc
  have hline : (ap.endLine == pos.line) = true := by
    rw [beq_iff_eq]
    exact Nat.eq_of_beq_eq_true hline
  have hlen : as.length < 20 := Nat.lt_of_succ_le (Nat.le_of_ble_eq_true hlen)
  obtain ⟨od, Sa, e0, e⟩ := bnd_some e
  have hs : NoStar as := by
    cases h : clsAt Sa od with
    | some p =>
      rw [h] at e
      obtain ⟨_, e⟩ := grd_some e
      obtain ⟨ds, S0, e1, e2⟩ := bnd_some e
      exact evs_star K.hst e1
    | none =>
      rw [h] at e
      obtain ⟨kd, ek, e⟩ := opt_some e
      obtain ⟨ds, S0, e1, e2⟩ := bnd_some e
      exact evs_star K.hst e1
  refine mc_line (base_eq hc _) hs hlen hline (thn (run_e K.Ie I M e0) fun u s1 ⟨v, H1, ρ1, I1, r1, p1, l1, M1, d1⟩ => ?_)
  have q1 : ∀ ρ' H' v, Pre ρ1 ρ' → Le H1 H' → Sim g (cl σd σ) ρ' S1 H' σd σ → DV g ρ' H' (cl σd σ) d v → Q v H' := fun ρ' H' v p' l' M' d' => q ρ' H' v (p1.trans p') (l1.trans l') M' d'
  cases h : clsAt Sa od with
  | some p =>
    rw [h] at e
    obtain ⟨hno, e⟩ := grd_some e
    obtain ⟨ds, S0, e1, e2⟩ := bnd_some e
    cases od with
    | loc n =>
      have h : (match nth Sa n with | some (.ins c fs) => some (c, fs) | _ => none) = some p := h
      rw [nth_eq] at h
      split at h
      · rename_i c fs hn
        cases h
        have d1' := d1
        obtain ⟨a, Ca, dx, fvs, rfl, ha, hg, hH, hfs⟩ := M1.ins d1 hn
        cases r1
        obtain ⟨ms, hl, hm⟩ := K.Ck.dom (.meth c m) _ _ _ _ e2
        obtain ⟨hcls, f, hme⟩ := K.Fc.meth c ms m Ca hl hm hg
        have hno : hasK m fs = false := by simpa using hno
        refine getmeth_ok I1 hH (by rw [K.Gd.K]; exact hcls) (by rw [K.Gd.K]; exact hme) (hfs.none hno) ?_
        exact cw_fn K I1 M1 (P := X.K.In) (ds0 := [.loc n]) (vs0 := [.ref a]) (us0 := [.ref a]) (fn := .meth c m) q1 e1 e2 (.cons d1' rfl) (.cons rfl .nil) (PySem.W.keeps_K (by rw [K.Gd.K]; exact hme.kp)) (fun H1 s1 I1 _ => I1.kIn) fun _ _ _ _ _ _ => ⟨Ca, hg, hme⟩
      · cases h
    | _ => cases h
  | none =>
    rw [h] at e
    obtain ⟨kd, ek, e⟩ := opt_some e
    obtain ⟨ds, S0, e1, e2⟩ := bnd_some e
    obtain ⟨id, T⟩ := mth_all K.Gd e2
    obtain ⟨ht, hdn⟩ := recv_ok K.Gd.K I1 M1 ek d1 r1
    refine getMethod_builtin ht T.pa T.slot T.ty hdn ?_
    refine cw_blt (first := [u]) hs (thn (run_as K.hst K.Ie I1 M1 e1) fun us s2 ⟨vs, H2, ρ2, I2, r2, p2, l2, M2, d2⟩ => ?_)
    exact T.run I2 M2 (d1.mono p2 l2 fun _ _ z => z) r1 d2 r2 e2 ⟨fun ρ' H' v p' l' M' d' => q1 ρ' H' v (p2.trans p') (l2.trans l') M' d'⟩
end
/-- calls -/
theorem e_call (K : CallCx g C X bk sc cl k j ih) {f : Expr} {as : List Expr} {ks : List Keyword} {pos : Pos} : PE X (.Call f as ks pos) (tE g cl (evCall C ih bk sc f as ks pos)) := by
  refine ⟨fun pins s σ H Q I h => ?_⟩
  obtain ⟨ρ, σd, S, d, S1, M, e, q⟩ := h
  unfold evCall at e
  cases f with
  | Name x p =>
    dsimp only at e
    cases ho : isOwn sc x with
    | true =>
      rw [ho] at e
      match as, ks, e with
      | a :: as, [], e => exact c_own K I M ho e q
      | [], [], e => cases e
      | [], _ :: _, e => cases e
      | _ :: _, _ :: _, e => cases e
    | false =>
      rw [ho] at e
      obtain ⟨hg, e⟩ := grd_some e
      cases hd : hasK x C.P.defs with
      | true =>
        rw [hd] at e
        match as, ks, e with
        | as, [], e => exact c_fn K I M hg hd e q
        | [], kw :: ks, e => exact c_kw K I M hg hd e q
        | _ :: _, _ :: _, e => cases e
      | false =>
        rw [hd] at e
        cases hl : look x C.P.clss with
        | some ms =>
          rw [hl] at e
          dsimp only at e
          cases hi : hasK "__init__" ms with
          | true =>
            rw [hi] at e
            match as, ks, e with
            | a :: as, [], e => exact c_make K I M hg hl hi e q
            | [], [], e => cases e
            | [], _ :: _, e => cases e
            | _ :: _, _ :: _, e => cases e
          | false =>
            rw [hi] at e
            cases e
        | none =>
          rw [hl] at e
          dsimp only at e
          cases hcs : hasK x C.P.csts with
          | true =>
            rw [hcs] at e
            cases e
          | false =>
            rw [hcs] at e
            match ks, e with
            | [], e => exact c_blt K I M hg hd hl hcs e q
            | _ :: _, e => cases e
  | Attribute o m ap =>
    dsimp only at e
    match ks, e with
    | [], e => exact c_meth K I M e q
    | _ :: _, e => cases e
  | _ => cases e
end
end K76
end

/-! text Stm -/
section
namespace K76
open PySem PySem.Spec PyProof.Rows L2
/-! ### how the stores of a statement stand -/
section
variable {env : Env}
theorem sw_not {e : Expr} (h : isCompE e = false) (tgt : Option Expr) (line : Nat) : swapsWith e tgt line env = pure false := by
  cases e <;> first | rfl | cases h
theorem sw_tup (e : Expr) {ts : List Expr} {j : Nat} {p : Pos} (line : Nat) : swapsWith e (some (.Tuple ts j p)) line env = pure false := by
  cases e <;> rfl
theorem sw_attr (e : Expr) {o : Expr} {f : Str} {p : Pos} (line : Nat) : swapsWith e (some (.Attribute o f p)) line env = pure false := by
  cases e <;> rfl
theorem sw_sub (e : Expr) {o i : Expr} {p : Pos} (line : Nat) : swapsWith e (some (.Subscript o i p)) line env = pure false := by
  cases e <;> rfl
theorem sw_name (e : Expr) {x : Str} {p : Pos} (line : Nat) : ∃ b, swapsWith e (some (.Name x p)) line env = pure b ∧ (b = true → isCompE e = true ∧ env.scope.names.lookup x = some .local) := by
  have key : ∀ (b1 b2 b3 b4 : Bool), (b1 && b2 && b3 && b4) = true → b2 = true := fun b1 b2 b3 b4 h => by
    cases b1 <;> cases b2 <;> first | rfl | cases h
  cases e <;> first | exact ⟨false, rfl, fun z => nomatch z⟩ | exact ⟨_, rfl, fun z => ⟨rfl, beq_iff_eq.mp (key _ _ _ _ z)⟩⟩
theorem ss_name {x : Str} {p : Pos} (v : Expr) : swappedStores [.Name x p] v env = pure none := by
  cases v <;> rfl
theorem ss_sub {o i : Expr} {p : Pos} (v : Expr) : swappedStores [.Subscript o i p] v env = pure none := by
  cases v <;> rfl
theorem ss_tup {ts : List Expr} {j : Nat} {p : Pos} {v : Expr} (h : ∀ vs k q, v ≠ .Tuple vs k q) : swappedStores [.Tuple ts j p] v env = pure none := by
  cases v <;> first | rfl | exact absurd rfl (h _ _ _)
theorem isPlain_iff {sc : Scope} {x : Str} : isPlain sc x = true ↔ sc.names.lookup x = some .local := by
  unfold isPlain
  rw [look_eq]
  cases h : sc.names.lookup x with
  | none => exact ⟨fun z => (by cases z), fun z => (by cases z)⟩
  | some k => cases k <;> first | exact ⟨fun _ => rfl, fun _ => rfl⟩ | exact ⟨fun z => (by cases z), fun z => (by cases z)⟩
theorem isPlain_eq {sc : Scope} {x : Str} : (sc.names.lookup x == some NameKind.local) = isPlain sc x := by
  cases h : isPlain sc x with
  | true => rw [isPlain_iff.mp h]; rfl
  | false =>
    rw [beq_eq_false_iff_ne]
    intro z
    rw [isPlain_iff.mpr z] at h
    cases h
end
/-! ### the reading of a statement -/
def tS (g : G) (cl : ClF) (f : Env1 → Sto → Option (Out × Env1 × Sto)) : TS := fun D σ H => ∃ ρ σd S o σ1 S1, Sim g (cl σd σ) ρ S H σd σ ∧ f σd S = some (o, σ1, S1) ∧
  (o = .nx → ∀ ρ' H' σ', Pre ρ ρ' → Le H H' → ClLe (cl σd σ) (cl σ1 σ') → Sim g (cl σ1 σ') ρ' S1 H' σ1 σ' → D.nx σ' H') ∧
  ∀ d, o = .ret d → ∀ ρ' H' σ' v, Pre ρ ρ' → Le H H' → ClLe (cl σd σ) (cl σ1 σ') → Sim g (cl σ1 σ') ρ' S1 H' σ1 σ' → DV g ρ' H' (cl σ1 σ') d v → D.rt v H'
section
variable {g : G} {C : Cx1} {X : Cx} {cl : ClF} {k : Nat} {ih : Ih}
/-- the level below -/
def Lv (g : G) (C : Cx1) (k : Nat) (ih : Ih) : Prop := (∀ bk sc e σ S, ih.e bk sc e σ S = none) ∨ ∃ ih0, IhAll g C k ih0 ∧ IhNo ih0 ∧ ∀ bk sc e σ S, ih.e bk sc e σ S = stepE C ih0 bk sc e σ S
structure StCx (g : G) (C : Cx1) (X : Cx) (cl : ClF) (k : Nat) (ih : Ih) : Prop where
  Gd : Good g C X false C.sc cl k
  sc : X.env.scope = C.sc
  F : Facts g C.P
  up : ClUp C C.sc cl
  Ie : IhE g X false C.sc cl ih
  no : IhNo ih
  lv : Lv g C k ih
  Is : ∀ l, PSs X l (tS g cl (ih.ss l))
theorem PS.imp {st : Stmt} {t t' : TS} (h : PS X st t) (i : ∀ D σ H, t' D σ H → t D σ H) : PS X st t' := ⟨fun pins s σ H D I q => h.run pins s σ H D I (i _ _ _ q)⟩
theorem PSs.imp {st : List Stmt} {t t' : TS} (h : PSs X st t) (i : ∀ D σ H, t' D σ H → t D σ H) : PSs X st t' := ⟨fun pins s σ H D I q => h.run pins s σ H D I (i _ _ _ q)⟩
theorem never_s {st : Stmt} {f : Env1 → Sto → Option (Out × Env1 × Sto)} (h : ∀ σ S, f σ S = none) : PS X st (tS g cl f) := ⟨fun pins s σ H D I q => by
  obtain ⟨ρ, σd, S, o, σ1, S1, M, e, _⟩ := q
  rw [h] at e
  cases e⟩
abbrev clRefl (cl : ClF) (σd : Env1) (σ : L2.St) : ClLe (cl σd σ) (cl σd σ) := fun _ _ z => z
/-- a store to a name -/
theorem asgN_sim (up : ClUp C C.sc cl) {ρ : List Addr} {S : Sto} {H : Hp} {σd σ1 : Env1} {σ : L2.St} {x : Str} {d : D} {v : V} (M : Sim g (cl σd σ) ρ S H σd σ) (hv : DV g ρ H (cl σd σ) d v) (e : asgN C C.sc x d σd = some σ1) :
    ∃ i, findIx x C.N 0 = some i ∧ Sim g (cl σ1 (σ.set i (some v))) ρ S H σ1 (σ.set i (some v)) ∧ ClLe (cl σd σ) (cl σ1 (σ.set i (some v))) ∧ isLoc C.sc x = true := by
  obtain ⟨hl, e⟩ := grd_some e
  obtain ⟨i, e1, e⟩ := opt_some e
  obtain ⟨o, e2, e⟩ := opt_some e
  obtain ⟨e3, e⟩ := grd_some e
  cases e
  rw [nth_eq] at e2
  rw [setN_eq]
  have hN := findIx_0 e1
  have hi : i < σd.length := (List.getElem?_eq_some_iff.mp e2).1
  have hi2 : i < σ.length := by rw [← M.env.len]; exact hi
  have lecl := up σd σ i x d v hN hl (fun z => by
    rw [z] at e3
    rw [e2]
    cases o with
    | none => rfl
    | some _ => cases e3)
  refine ⟨i, e1, ⟨M.rel.clm lecl, ⟨by rw [List.length_set, List.length_set]; exact M.env.len, fun j d' e => ?_⟩⟩, lecl, hl⟩
  by_cases hj : j = i
  · subst hj
    rw [List.getElem?_set_self hi] at e
    cases e
    exact ⟨v, List.getElem?_set_self hi2, hv.mono (Pre.refl _) (Le.refl _) lecl⟩
  · rw [List.getElem?_set_ne (Ne.symm hj)] at e
    obtain ⟨v', h1, h2⟩ := M.env.at_ j d' e
    exact ⟨v', by rw [List.getElem?_set_ne (Ne.symm hj)]; exact h1, h2.mono (Pre.refl _) (Le.refl _) lecl⟩
/-! the statements -/
theorem s_pass {pos : Pos} : PS X (.Pass pos) (tS g cl fun σ S => some (.nx, σ, S)) := PS.imp ps_pass fun D σ H q => by
  obtain ⟨ρ, σd, S, o, σ1, S1, M, e, q1, _⟩ := q
  cases e
  exact q1 rfl ρ H σ (Pre.refl _) (Le.refl _) (clRefl cl _ _) M
theorem s_ret (K : StCx g C X cl k ih) {e : Expr} {pos : Pos} : PS X (.Return (some e) pos) (tS g cl fun σ S => bnd (ih.e false C.sc e σ S) fun d S1 => some (.ret d, σ, S1)) := PS.imp (ps_ret (K.Ie.e e)) fun D σ H q => by
  obtain ⟨ρ, σd, S, o, σ1, S1, M, e, _, q2⟩ := q
  obtain ⟨d, Sa, e1, e⟩ := bnd_some e
  cases e
  exact ⟨ρ, σd, S, d, _, M, e1, fun ρ' H' v p l M' d' => q2 d rfl ρ' H' σ v p l (clRefl cl _ _) M' d'⟩
theorem s_expr (K : StCx g C X cl k ih) {e : Expr} {pos : Pos} : PS X (.Expr e pos) (tS g cl fun σ S => grd (!isCompE e) (bnd (ih.e false C.sc e σ S) fun _ S1 => some (.nx, σ, S1))) := by
  cases hc : isCompE e with
  | true => exact never_s fun σ S => rfl
  | false =>
    refine PS.imp (ps_expr (K.Ie.e e) (sw_not hc _ _)) fun D σ H q => ?_
    obtain ⟨ρ, σd, S, o, σ1, S1, M, e, q1, _⟩ := q
    obtain ⟨_, e⟩ := grd_some e
    obtain ⟨d, Sa, e1, e⟩ := bnd_some e
    cases e
    exact ⟨ρ, σd, S, d, _, M, e1, fun ρ' H' v p l M' d' => q1 rfl ρ' H' σ p l (clRefl cl _ _) M'⟩
theorem s_if (K : StCx g C X cl k ih) {t : Expr} {a b : List Stmt} {pos : Pos} : PS X (.If t a b pos) (tS g cl fun σ S => bnd (tst ih false C.sc t σ S) fun k S1 => match k with
    | true => ih.ss a σ S1
    | false => ih.ss b σ S1) := PS.imp (ps_if (K.Ie.t t) (K.Is a) (K.Is b)) fun D σ H q => by
  obtain ⟨ρ, σd, S, o, σ1, S1, M, e, q1, q2⟩ := q
  obtain ⟨c, Sa, e1, e⟩ := bnd_some e
  refine ⟨ρ, σd, S, c, Sa, M, e1, fun ρ1 H1 p1 l1 M1 => ?_⟩
  cases c with
  | true =>
    rw [if_pos rfl]
    exact ⟨ρ1, σd, Sa, o, σ1, S1, M1, e, fun z ρ' H' σ' p l c M' => q1 z ρ' H' σ' (p1.trans p) (l1.trans l) c M', fun d z ρ' H' σ' v p l c M' d' => q2 d z ρ' H' σ' v (p1.trans p) (l1.trans l) c M' d'⟩
  | false =>
    rw [if_neg Bool.false_ne_true]
    exact ⟨ρ1, σd, Sa, o, σ1, S1, M1, e, fun z ρ' H' σ' p l c M' => q1 z ρ' H' σ' (p1.trans p) (l1.trans l) c M', fun d z ρ' H' σ' v p l c M' d' => q2 d z ρ' H' σ' v (p1.trans p) (l1.trans l) c M' d'⟩
theorem own_pass (Gd : Good g C X false C.sc cl k) : PassesOwn (model X.prog X.w) X.A X.env X.xe := by
  rw [Gd.xe]
  exact PassesOwn.never
theorem s_while (K : StCx g C X cl k ih) {t : Expr} {b : List Stmt} {pos : Pos} : PS X (.While t b [] pos) (tS g cl fun σ S => whGo C ih t b 200 σ S) := by
  refine PS.imp (ps_while (own_pass K.Gd) (K.Ie.t t) (K.Is b)) fun D σ0 H0 q => ?_
  obtain ⟨ρ0, σd0, S0, o, σ1, S1, M0, e0, q1, q2⟩ := q
  refine ⟨fun n σ H => ∃ ρ σd S, Pre ρ0 ρ ∧ Le H0 H ∧ ClLe (cl σd0 σ0) (cl σd σ) ∧ Sim g (cl σd σ) ρ S H σd σ ∧ whGo C ih t b n σd S = some (o, σ1, S1), ⟨200, ρ0, σd0, S0, Pre.refl _, Le.refl _, clRefl cl _ _, M0, e0⟩, ?_⟩
  rintro n σ H ⟨ρ, σd, S, p0, l0, c0, M, e⟩
  cases n with
  | zero => cases e
  | succ n =>
    obtain ⟨c, Sa, e1, e⟩ := bnd_some (show bnd (tst ih false C.sc t σd S) (fun b' S1 => match b' with
      | true => bnd (ih.ss b σd S1) fun o p => match o with
        | .nx => whGo C ih t b n p.1 p.2
        | .ret r => some (Out.ret r, p)
      | false => some (Out.nx, σd, S1)) = some (o, σ1, S1) from e)
    refine ⟨ρ, σd, S, c, Sa, M, e1, fun ρ1 H1 p1 l1 M1 => ?_⟩
    cases c with
    | false =>
      cases e
      rw [if_neg Bool.false_ne_true]
      exact q1 rfl ρ1 H1 σ (p0.trans p1) (l0.trans l1) c0 M1
    | true =>
      rw [if_pos rfl]
      obtain ⟨o2, pq, e2, e⟩ := bnd_some e
      refine ⟨fun σ' H' => ∃ ρ σd S, Pre ρ0 ρ ∧ Le H0 H' ∧ ClLe (cl σd0 σ0) (cl σd σ') ∧ Sim g (cl σd σ') ρ S H' σd σ' ∧ whGo C ih t b n σd S = some (o, σ1, S1), fun σ' H' h => ⟨n, Nat.lt_succ_self _, h⟩, ρ1, σd, Sa, o2, pq.1, pq.2, M1, e2, fun z ρ' H' σ' p l c M' => ?_, fun d z ρ' H' σ' v p l c M' d' => ?_⟩
      · subst z
        exact ⟨ρ', pq.1, pq.2, (p0.trans p1).trans p, (l0.trans l1).trans l, fun a b z => c a b (c0 a b z), M', e⟩
      · subst z
        cases e
        exact q2 d rfl ρ' H' σ' v ((p0.trans p1).trans p) ((l0.trans l1).trans l) (fun a b z => c a b (c0 a b z)) M' d'
theorem s_for (K : StCx g C X cl k ih) {t it : Expr} {b : List Stmt} {pos : Pos} : PS X (.For t it b [] pos) (tS g cl fun σ S => bnd (evSrc C ih false C.sc t it σ S) fun src S1 => forGo C ih t b src 5000 0 σ S1) := by
  by_cases hs : ∃ es j p, it = .Set es j p
  · obtain ⟨es, j, p, rfl⟩ := hs
    refine never_s fun σ S => ?_
    rw [src_set K.no]
    rfl
  refine PS.imp (ps_for (own_pass K.Gd) K.Gd.calm (i_src K.Gd K.F K.no K.Ie t it) (g_asgW K.Gd K.up t) (K.Is b) (hsE hs)) fun D σ0 H00 q => ?_
  obtain ⟨ρ00, σd0, S00, o, σ1, S1, M00, e0, q1, q2⟩ := q
  obtain ⟨src, S0, es, e0⟩ := bnd_some e0
  refine ⟨ρ00, σd0, S00, src, S0, M00, es, fun ρ0 H0 J p00 l00 M0 SO => ?_⟩
  refine ⟨fun i n σ H => ∃ ρ σd S, Pre ρ0 ρ ∧ Le H0 H ∧ ClLe (cl σd0 σ0) (cl σd σ) ∧ Sim g (cl σd σ) ρ S H σd σ ∧ forGo C ih t b src n i σd S = some (o, σ1, S1), ⟨5000, ρ0, σd0, S0, Pre.refl _, Le.refl _, clRefl cl _ _, M0, e0⟩, ?_⟩
  rintro i n σ H ⟨ρ, σd, S, p0, l0, c0, M, e⟩
  cases n with
  | zero => cases e
  | succ n =>
    obtain ⟨it?, e1, e⟩ := opt_some (show opt (src.at S i) (fun o => match o with
      | none => some (Out.nx, σd, S)
      | some d => opt (asgT C C.sc S 20 t d σd) fun σ1 => bnd (ih.ss b σ1 S) fun o p => match o with
        | .nx => forGo C ih t b src n (i + 1) p.1 p.2
        | .ret r => some (Out.ret r, p)) = some (o, σ1, S1) from e)
    obtain ⟨a1, a2⟩ := (SO.mono c0).at p0 l0 M e1
    cases it? with
    | none =>
      cases e
      exact .inl ⟨a1 rfl, q1 rfl ρ H σ (p00.trans p0) (l00.trans l0) c0 M⟩
    | some d =>
      obtain ⟨σt, e2, e⟩ := opt_some e
      obtain ⟨o2, pq, e3, e⟩ := bnd_some e
      obtain ⟨go, yl⟩ := a2 d rfl
      refine .inr ⟨go, fun σ' H' => ∃ ρ σd S, Pre ρ0 ρ ∧ Le H0 H' ∧ ClLe (cl σd0 σ0) (cl σd σ') ∧ Sim g (cl σd σ') ρ S H' σd σ' ∧ forGo C ih t b src n (i + 1) σd S = some (o, σ1, S1), fun σ' H' h => ⟨n, Nat.lt_succ_self _, h⟩, fun x H' y => ?_⟩
      obtain ⟨l1, M1, dv⟩ := yl x H' y
      refine ⟨ρ, σd, S, d, σt, M1, dv.imp id fun ⟨w, z⟩ => ⟨src_weak es w, z⟩, e2, fun σ' M2 c2 _ => ?_⟩
      refine ⟨ρ, σt, S, o2, pq.1, pq.2, M2, e3, fun z ρ' H' σ'' p l c M' => ?_, fun d z ρ' H' σ'' v p l c M' d' => ?_⟩
      · subst z
        exact ⟨ρ', pq.1, pq.2, p0.trans p, (l0.trans l1).trans l, fun a b z => c a b (c2 a b (c0 a b z)), M', e⟩
      · subst z
        cases e
        exact q2 d rfl ρ' H' σ'' v ((p00.trans p0).trans p) ((l00.trans (l0.trans l1)).trans l) (fun a b z => c a b (c2 a b (c0 a b z))) M' d'
theorem nox_eq (Gd : Good g C X false C.sc cl k) : X.nox = X := by
  have := Gd.xe
  cases X
  simp only at this
  subst this
  rfl
theorem s_try (K : StCx g C X cl k ih) {b : List Stmt} {h0 : ExceptHandler} {pos : Pos} : PS X (.Try b [h0] [] [] pos) (tS g cl fun σ S => ih.ss b σ S) := by
  refine ps_try_thru0 ?_
  rw [nox_eq K.Gd]
  exact K.Is b
end
end K76
end

/-! text Stm2 -/
section
namespace K76
open PySem PySem.Spec PyProof.Rows L2
section
variable {g : G} {C : Cx1} {X : Cx} {cl : ClF} {k : Nat} {ih : Ih}
theorem bnd_none {α β γ : Type} {o : Option (α × β)} {f : α → β → Option γ} (h : ∀ a b, f a b = none) : bnd o f = none := by
  cases o with
  | none => rfl
  | some p => exact h _ _
/-! ### stores into objects -/
theorem FsR.put {ρ : List Addr} {H : Hp} {c : Cl} {f : Str} {d : D} {v : V} (hv : DV g ρ H c d v) : ∀ {fs : List (Str × D)} {fvs : List (Str × V)}, FsR g ρ H c fs fvs → FsR g ρ H c (K76.put f d fs) (putF f v fvs)
  | [], _, h => by
    have h : _ = [] := h
    subst h
    exact ⟨v, [], rfl, hv, rfl⟩
  | p :: r, _, ⟨v1, q, e, h1, h2⟩ => by
    subst e
    show FsR g ρ H c (match eqS p.1 f with | true => (p.1, d) :: r | false => p :: K76.put f d r) (if p.1 = f then (p.1, v) :: q else (p.1, v1) :: putF f v q)
    cases he : eqS p.1 f with
    | true =>
      rw [if_pos (eqS_iff.mp he)]
      exact ⟨v, q, rfl, hv, h2⟩
    | false =>
      rw [if_neg (eqS_ne he)]
      exact ⟨v1, _, rfl, h1, FsR.put hv h2⟩
theorem FsR.length {ρ : List Addr} {H : Hp} {c : Cl} : ∀ {fs : List (Str × D)} {fvs : List (Str × V)}, FsR g ρ H c fs fvs → fs.length = fvs.length
  | [], _, h => by
    have h : _ = [] := h
    rw [h]
    rfl
  | p :: r, _, ⟨v1, q, e, h1, h2⟩ => by
    rw [e, List.length_cons, List.length_cons, FsR.length h2]
theorem storeAt_some {P : Prog1} {o : D} {f : Str} {v : D} {S S1 : Sto} (h : storeAt P o f v S = some S1) : ∃ n c fs, o = .loc n ∧ S[n]? = some (.ins c fs) ∧ isFld P c f = true ∧ fs.length < 900 ∧ S1 = S.set n (.ins c (put f v fs)) := by
  unfold storeAt at h
  cases o with
  | loc n =>
    obtain ⟨ob, e, h⟩ := opt_some h
    rw [nth_eq] at e
    cases ob with
    | ins c fs =>
      obtain ⟨e2, h⟩ := grd_some h
      cases h
      obtain ⟨e2, e3⟩ := Bool.and_eq_true_iff.mp e2
      exact ⟨n, c, fs, rfl, e, e2, Nat.lt_of_succ_le (Nat.le_of_ble_eq_true e3), setN_eq _ _ _⟩
    | _ => cases h
  | _ => cases h
/-- an instance's field is stored -/
theorem Sim.put {ρ : List Addr} {H : Hp} {c : Cl} {S : Sto} {σd : Env1} {σ : L2.St} (M : Sim g c ρ S H σd σ) {n : Nat} {a Ca dx : Addr} {cn f : Str} {fs : List (Str × D)} {fvs : List (Str × V)} {d : D} {v : V} (ha : ρ[n]? = some a) (hg : g.mg cn = some (.ref Ca)) (hH : H a = some (.ins Ca dx fvs)) (hf : FsR g ρ H c fs fvs) (hv : DV g ρ H c d v) :
    Le H (upd H a (.ins Ca dx (putF f v fvs))) ∧ Sim g c ρ (S.set n (.ins cn (put f d fs))) (upd H a (.ins Ca dx (putF f v fvs))) σd σ := by
  have lw : Le H (upd H a (.ins Ca dx (putF f v fvs))) := le_write hH trivial
  refine ⟨lw, M.set ha hH trivial ⟨Ca, dx, _, hg, upd_same, FsR.put (hv.mono (Pre.refl _) lw fun _ _ z => z) ?_⟩⟩
  exact FsR.mono (Pre.refl _) lw (fun _ _ z => z) hf
theorem s_attr (K : StCx g C X cl k ih) {o v : Expr} {f : Str} {p pos : Pos} : PS X (.Assign [.Attribute o f p] v pos) (tS g cl fun σ S => bnd (ih.e false C.sc v σ S) fun d S1 => bnd (ih.e false C.sc o σ S1) fun x S2 => opt (storeAt C.P x f d S2) fun S3 => some (.nx, σ, S3)) := by
  refine PS.imp (ps_fld (K.Ie.e o) (K.Ie.e v) (sw_attr _ _)) fun D σ H q => ?_
  obtain ⟨ρ, σd, S, oo, σ1, S1, M, e, q1, _⟩ := q
  obtain ⟨d, Sa, e1, e⟩ := bnd_some e
  obtain ⟨x, Sb, e2, e⟩ := bnd_some e
  obtain ⟨Sc, e3, e⟩ := opt_some e
  cases e
  refine ⟨ρ, σd, S, d, Sa, M, e1, fun ρ1 H1 y p1 l1 M1 d1 => ⟨ρ1, σd, Sa, x, Sb, M1, e2, fun ρ2 H2 w p2 l2 M2 d2 => ?_⟩⟩
  obtain ⟨n, c, fs, rfl, h1, h2, h3, rfl⟩ := storeAt_some e3
  obtain ⟨a, Ca, dx, fvs, rfl, h4, h5, h6, h7⟩ := M2.ins d2 h1
  obtain ⟨f1, f2⟩ := K.F.fld c f Ca h2 h5
  obtain ⟨lw, M3⟩ := M2.put (f := f) h4 h5 h6 h7 (d1.mono p2 l2 fun _ _ z => z)
  rw [K.Gd.K]
  exact ⟨a, Ca, dx, fvs, rfl, h6, f1, f2, by rw [← h7.length]; omega, q1 rfl ρ2 _ σ (p1.trans p2) ((l1.trans l2).trans lw) (clRefl cl _ _) M3⟩
theorem s_aug (K : StCx g C X cl k ih) {o v : Expr} {f : Str} {p pos : Pos} : PS X (.AugAssign (.Attribute o f p) .Add v pos) (tS g cl fun σ S => bnd (ih.e false C.sc o σ S) fun x S1 => opt (getAt C.P x f S1) fun a => opt (asI a) fun i => bnd (ih.e false C.sc v σ S1) fun b S2 => opt (asI b) fun j => grd (sameCls S1 S2 x) (opt (storeAt C.P x f (.int (i + j)) S2) fun S4 => some (.nx, σ, S4))) := by
  refine PS.imp (ps_fldaug (K.Ie.e o) (K.Ie.e v) in_add) fun D σ H q => ?_
  obtain ⟨ρ, σd, S, oo, σ1, S1, M, e, q1, _⟩ := q
  obtain ⟨x, Sa, e1, e⟩ := bnd_some e
  obtain ⟨da, e2, e⟩ := opt_some e
  obtain ⟨i, e3, e⟩ := opt_some e
  obtain ⟨db, Sb, e4, e⟩ := bnd_some e
  obtain ⟨j, e5, e⟩ := opt_some e
  obtain ⟨e6, e⟩ := grd_some e
  obtain ⟨Sc, e7, e⟩ := opt_some e
  cases e
  refine ⟨ρ, σd, S, x, Sa, M, e1, fun ρ1 H1 w p1 l1 M1 d1 => ?_⟩
  obtain ⟨n, c, fs, rfl, g1, g2, g3⟩ := getAt_some e2
  obtain ⟨a, Ca, dx, fvs, rfl, h4, h5, h6, h7⟩ := M1.ins d1 g1
  obtain ⟨va, h8, h9⟩ := h7.find g3
  obtain ⟨f1, f2⟩ := K.F.fld c f Ca g2 h5
  have hva := h9.int e3
  subst hva
  rw [K.Gd.K]
  refine ⟨a, Ca, dx, fvs, _, rfl, h6, f1, f2, h8, ρ1, σd, Sa, db, Sb, M1, e4, fun ρ2 H2 y p2 l2 M2 d2 => ⟨i, j, rfl, d2.int e5, ?_⟩⟩
  obtain ⟨n', c', fs', en, k1, k2, k3, rfl⟩ := storeAt_some e7
  cases en
  have hc : c = c' := by
    have e6 : (match clsAt Sa (.loc n) with | some p => (match clsAt Sb (.loc n) with | some q => eqS p.1 q.1 | none => false) | none => false) = true := e6
    have a1 : clsAt Sa (.loc n) = some (c, fs) := by
      unfold clsAt
      dsimp only
      rw [nth_eq, g1]
    have a2 : clsAt Sb (.loc n) = some (c', fs') := by
      unfold clsAt
      dsimp only
      rw [nth_eq, k1]
    rw [a1, a2] at e6
    exact eqS_iff.mp e6
  subst hc
  obtain ⟨a', Ca', dx', fvs', ea, m4, m5, m6, m7⟩ := M2.ins ⟨a, p2.get h4, rfl⟩ k1
  cases ea
  rw [h5] at m5
  cases m5
  obtain ⟨lw, M3⟩ := M2.put (f := f) (d := .int (i + j)) (v := .int (i + j)) m4 h5 m6 m7 rfl
  exact ⟨dx', fvs', m6, by rw [← m7.length]; omega, q1 rfl ρ2 _ σ (p1.trans p2) ((l1.trans l2).trans lw) (clRefl cl _ _) M3⟩
/-- o[i] = v -/
def rStore (g : G) : TSet := fun o i v H Q => ∃ c ρ S σd σ dO dI dw S1, Sim g c ρ S H σd σ ∧ DV g ρ H c dO o ∧ DV g ρ H c dI i ∧ DV g ρ H c dw v ∧ storeIx dO dI dw S = some S1 ∧ ∀ H', Le H H' → Sim g c ρ S1 H' σd σ → Q H'
theorem set_ix (Gd : Good g C X false C.sc cl k) : PSet X (rStore g) := by
  intro pins s σ H o i v ov iv u Q I ro ri rv h
  obtain ⟨c, ρ, S, σd, σ0, dO, dI, dw, S1, M, hO, hI, hv, e, q⟩ := h
  have hr := Gd.room
  cases dO with
  | loc n =>
    obtain ⟨ob, e1, e⟩ := opt_some (show opt (nth S n) (fun ob => match ob with
      | .lst ds => match dI with
        | .int (.ofNat k) => grd (Nat.blt k ds.length) (some (setN S n (.lst (setN ds k dw))))
        | _ => none
      | .dct kvs => opt (dSet dI dw kvs) fun q => grd (small q) (some (setN S n (.dct q)))
      | _ => none) = some S1 from e)
    rw [nth_eq] at e1
    obtain ⟨a, ha, hob⟩ := M.rel.addr e1
    obtain ⟨a', ha', rfl⟩ := hO
    rw [ha] at ha'
    cases ha'
    cases ob with
    | lst ds =>
      obtain ⟨vs, h1, h2⟩ := hob
      cases dI with
      | int j =>
        cases j with
        | ofNat j =>
          obtain ⟨e2, e⟩ := grd_some e
          cases e
          have hj : j < ds.length := Nat.lt_of_succ_le (Nat.le_of_ble_eq_true e2)
          have hI : i = .int (Int.ofNat j) := hI
          subst hI
          have lw : Le H (upd H a (.lst (vs.set j v))) := le_write h1 trivial
          refine set_list pins s σ H _ _ v ov iv u Q I ro ri rv ⟨a, vs, _, j, rfl, rfl, h1, ?_, q _ lw ?_⟩
          · unfold ixN
            rw [if_pos (show (0 : Int) ≤ Int.ofNat j from Int.natCast_nonneg j), if_pos (show (Int.ofNat j) < ((vs.length : Nat) : Int) from by rw [← h2.length]; exact Int.ofNat_lt.mpr hj)]
            rfl
          · rw [setN_eq, setN_eq]
            exact M.set ha h1 trivial ⟨_, upd_same, DVs.set (hv.mono (Pre.refl _) lw fun _ _ z => z) j (h2.mono (Pre.refl _) lw fun _ _ z => z)⟩
        | negSucc j => cases e
      | _ => cases e
    | dct kvs =>
      obtain ⟨kq, e2, e⟩ := opt_some e
      obtain ⟨e3, e⟩ := grd_some e
      cases e
      obtain ⟨e2, e4⟩ := grd_some e2
      rw [setN_eq] at q
      have e3 := small_le e3
      cases ro
      rcases okKey_cases e2 with ⟨k1, k2⟩ | ⟨k1, k2, k3⟩
      · obtain ⟨ks, hH, hn, hR⟩ := dk_first hob k2
        obtain ⟨kk, ek⟩ := isKey_keyD k1
        have ei := hI.key ek
        subst ei
        obtain ⟨i1, i2, i3, i4⟩ := KvR.put ek hv hn hR e4
        have hl : ks.length < sizeLine := by
          obtain ⟨z, _⟩ := dk_of I.hok hH
          have z2 := i1.length
          have z3 : ks.length ≤ (putK ks kk v).length := by
            unfold putK
            split
            · rw [List.length_map]
              exact Nat.le_refl _
            · rw [List.length_append]
              omega
          exact line16' (by omega)
        have lw : Le H (upd H a (.dK (putK ks kk v))) := le_write hH trivial
        refine d_setItem (by have := hr.un; omega) I (DPut.k (k := kk) (v := v) hH hl) ri rv fun s' I' => ⟨_, I', q _ lw ?_⟩
        exact M.set ha hH trivial (.inl ⟨i3 k2, _, upd_same, (putK_keys kk v ks hn).1, KvR.mono (Pre.refl _) lw (fun _ _ z => z) i1⟩)
      · obtain ⟨hs, hl, xs', hR, hnd, hD⟩ := dictN_at Gd.P Gd.w Gd.K I hob k2
        obtain ⟨nk, en, hdp⟩ := nkOk_some k3
        obtain ⟨b, rfl⟩ := tup_ref k1 hI
        cases ri
        obtain ⟨j1, j2, j3, j4, j5⟩ := NvR.put (v := v) (u := u) k1 en hdp hI rv hv hnd hR e4
        have hz : xs'.length ≤ sizeLine := by rw [← hR.length]; exact hl
        refine wpAny_setItem_heap (hsz := hz) (nested_room hr) ⟨DV.nested Gd.K I _ en hI rfl, hdp⟩ hD fun h' dd' hsb => ?_
        obtain ⟨o', es', ep', hq, h2, h3, h4, _, h5⟩ := dd'
        obtain ⟨uo, hu⟩ := hob.some
        have mu : Mut (H a) := by
          rcases hob with ⟨_, ks, z, _⟩ | ⟨_, o, es, ep, xs, z, _⟩
          · rw [z]; trivial
          · rw [z]; trivial
        have lw : Le H (upd H a (DictO a o')) := le_write hu (by rw [← hu]; exact mu)
        refine ⟨upd H a (DictO a o'), I.write (x := a) (e := a) (t' := s.toks + (nestedKind X.prog X.w).draws nk) mu (.inl rfl) (fun b q hb z => (hsb.2 b hb).trans z) ⟨o', hq⟩ ⟨hq, ⟨o', hq⟩, fun h1 h2 p k => k o' p⟩, q _ lw ?_⟩
        rw [Gd.P, Gd.w] at h4
        exact M.set ha hu (by rw [← hu]; exact mu) (.inr ⟨j2, o', es', ep', _, upd_same, hs, line16 e3, h2, h3, h4, j4, NvR.mono (Pre.refl _) lw (fun _ _ z => z) j1⟩)
    | _ => cases e
  | _ => cases e
theorem s_sub (K : StCx g C X cl k ih) (hsl : ∀ bk sc a b c p, ih.e bk sc (.Slice a b c p) = fun _ _ => none) {o i v : Expr} {p pos : Pos} : PS X (.Assign [.Subscript o i p] v pos) (tS g cl fun σ S => bnd (ih.e false C.sc v σ S) fun d S1 => bnd (ih.e false C.sc o σ S1) fun x S2 => bnd (ih.e false C.sc i σ S2) fun y S3 => opt (storeIx x y d S3) fun S4 => some (.nx, σ, S4)) := by
  by_cases hi : ∃ a b c p, i = .Slice a b c p
  · obtain ⟨a, b, c, p, rfl⟩ := hi
    refine never_s fun σ S => ?_
    rw [hsl]
    exact bnd_none fun d Sa => bnd_none fun x Sb => rfl
  refine PS.imp (ps_asg (K.Ie.e v) (pg_sub (K.Ie.e o) (K.Ie.e i) (set_ix K.Gd) (by
    intro v
    cases i <;> first | rfl | exact absurd ⟨_, _, _, _, rfl⟩ hi)) (show swapsWithSole [.Subscript o i p] v pos.line X.env = pure false from sw_sub (env := X.env) (o := o) (i := i) (p := p) v pos.line) (ss_sub v)) fun D σ H q => ?_
  obtain ⟨ρ, σd, S, oo, σ1, S1, M, e, q1, _⟩ := q
  obtain ⟨d, Sa, e1, e⟩ := bnd_some e
  obtain ⟨x, Sb, e2, e⟩ := bnd_some e
  obtain ⟨y, Sc, e3, e⟩ := bnd_some e
  obtain ⟨Sd, e4, e⟩ := opt_some e
  cases e
  exact ⟨ρ, σd, S, d, Sa, M, e1, fun ρ1 H1 vv p1 l1 M1 d1 => ⟨ρ1, σd, Sa, x, Sb, M1, e2, fun ρ2 H2 xv p2 l2 M2 d2 => ⟨ρ2, σd, Sb, y, Sc, M2, e3, fun ρ3 H3 yv p3 l3 M3 d3 =>
    ⟨cl σd σ, ρ3, Sc, σd, σ, x, y, d, _, M3, d2.mono p3 l3 (fun _ _ z => z), d3, d1.mono (p2.trans p3) (l2.trans l3) (fun _ _ z => z), e4, fun H' l' M' => q1 rfl ρ3 H' σ ((p1.trans p2).trans p3) (((l1.trans l2).trans l3).trans l') (clRefl cl _ _) M'⟩⟩⟩⟩
end
end K76
end

/-! text Sw -/
section
namespace K76
open PySem PySem.Spec PyProof.Rows L2
section
variable {env : Env}
theorem star_fn (vs : List Expr) : (vs.any fun | .Starred .. => true | _ => false) = vs.any isStar := rfl
/-- the names of written targets that are plain, on the line -/
def plainOn (env : Env) (line : Nat) : Expr → Option Str
  | .Name id pos => if env.kindOf id == some .local && pos.line == line then some id else none
  | _ => none
theorem ss_eq {ts vs : List Expr} {j k : Nat} {p q : Pos} : swappedStores [.Tuple ts j p] (.Tuple vs k q) env = (
  if (!(ts.length == 2 || ts.length == 3) || vs.length != ts.length || env.blockKind != .function) = true then pure none else
  if vs.any isStar = true then pure none else
  if ((ts.filterMap (plainOn env ((ts.head?.map (·.pos.line)).getD 0))).length != ts.length || (ts.filterMap (plainOn env ((ts.head?.map (·.pos.line)).getD 0))).eraseDups.length != (ts.filterMap (plainOn env ((ts.head?.map (·.pos.line)).getD 0))).length) = true then pure none else
  if vs.all (foldedForSure 8) = true then pure none else
  if vs.all (constantsAlone 8) = true then (do let r ← (unsupported "assign.tuple-of-constant-expressions:order-of-the-stores" : Sem PUnit); pure (some (ts.filterMap (plainOn env ((ts.head?.map (·.pos.line)).getD 0))))) else
  pure (some (ts.filterMap (plainOn env ((ts.head?.map (·.pos.line)).getD 0))))) := by
  unfold swappedStores
  rfl
theorem plainOn_some {line : Nat} {e : Expr} {x : Str} (h : plainOn env line e = some x) : ∃ p, e = .Name x p ∧ env.scope.names.lookup x = some .local ∧ p.line = line := by
  cases e <;> first | (cases h; done) | skip
  rename_i id pos
  have h : (if (env.kindOf id == some .local && pos.line == line) = true then some id else none) = some x := h
  by_cases c : (env.kindOf id == some .local && pos.line == line) = true
  · rw [if_pos c] at h
    cases h
    obtain ⟨c1, c2⟩ := Bool.and_eq_true_iff.mp c
    exact ⟨pos, rfl, beq_iff_eq.mp c1, beq_iff_eq.mp c2⟩
  · rw [if_neg c] at h
    cases h
theorem plainOn_two {line : Nat} {t1 t2 : Expr} (h : ([t1, t2].filterMap (plainOn env line)).length = 2) : ∃ x px y py, t1 = .Name x px ∧ t2 = .Name y py ∧ env.scope.names.lookup x = some .local ∧ env.scope.names.lookup y = some .local ∧ px.line = line ∧ py.line = line ∧ [t1, t2].filterMap (plainOn env line) = [x, y] := by
  cases h1 : plainOn env line t1 with
  | none =>
    rw [List.filterMap_cons_none h1] at h
    have := List.length_filterMap_le (plainOn env line) [t2]
    simp only [List.length_cons, List.length_nil] at this
    omega
  | some x =>
    cases h2 : plainOn env line t2 with
    | none =>
      rw [List.filterMap_cons_some h1, List.filterMap_cons_none h2] at h
      cases h
    | some y =>
      obtain ⟨px, e1, e2, e3⟩ := plainOn_some h1
      obtain ⟨py, f1, f2, f3⟩ := plainOn_some h2
      exact ⟨x, px, y, py, e1, f1, e2, f2, e3, f3, by rw [List.filterMap_cons_some h1, List.filterMap_cons_some h2]; rfl⟩
theorem dups_two {x y : Str} (h : ([x, y] : List Str).eraseDups.length = 2) : x ≠ y := by
  rintro rfl
  simp [List.eraseDups_cons] at h
theorem dups_two' {x y : Str} (h : x ≠ y) : ([x, y] : List Str).eraseDups.length = 2 := by
  have e : (y == x) = false := beq_eq_false_iff_ne.mpr (Ne.symm h)
  simp [List.eraseDups_cons, List.filter, e]
theorem ss_none {ts vs : List Expr} {j k : Nat} {p q : Pos} (h : swp2 env.scope ts vs = some false) : swappedStores [.Tuple ts j p] (.Tuple vs k q) env = pure none := by
  rw [ss_eq]
  by_cases c1 : (!(ts.length == 2 || ts.length == 3) || vs.length != ts.length || env.blockKind != .function) = true
  · rw [if_pos c1]
  rw [if_neg c1]
  by_cases c2 : vs.any isStar = true
  · rw [if_pos c2]
  rw [if_neg c2]
  by_cases c3 : ((ts.filterMap (plainOn env ((ts.head?.map (·.pos.line)).getD 0))).length != ts.length || (ts.filterMap (plainOn env ((ts.head?.map (·.pos.line)).getD 0))).eraseDups.length != (ts.filterMap (plainOn env ((ts.head?.map (·.pos.line)).getD 0))).length) = true
  · rw [if_pos c3]
  rw [if_neg c3]
  by_cases c4 : vs.all (foldedForSure 8) = true
  · rw [if_pos c4]
  exfalso
  have nf : ∀ {b : Bool}, ¬ b = true → b = false := fun {b} z => by
    cases b
    · rfl
    · exact absurd rfl z
  obtain ⟨c1, c6⟩ := Bool.or_eq_false_iff.mp (nf c1)
  obtain ⟨c1, c5⟩ := Bool.or_eq_false_iff.mp c1
  obtain ⟨c7, c8⟩ := Bool.or_eq_false_iff.mp (nf c3)
  have c5 : vs.length = ts.length := by simpa using c5
  have c7 : (ts.filterMap (plainOn env ((ts.head?.map (·.pos.line)).getD 0))).length = ts.length := by simpa using c7
  have c8 : (ts.filterMap (plainOn env ((ts.head?.map (·.pos.line)).getD 0))).eraseDups.length = (ts.filterMap (plainOn env ((ts.head?.map (·.pos.line)).getD 0))).length := by simpa using c8
  have c1 : (ts.length == 2 || ts.length == 3) = true := by
    cases z : (ts.length == 2 || ts.length == 3) with
    | true => rfl
    | false =>
      rw [z] at c1
      cases c1
  match ts, c1, c5, c7, c8, h with
  | [t1, t2], _, c5, c7, c8, h =>
    match vs, c5, c2, c4, h with
    | [a, b], _, c2, c4, h =>
      obtain ⟨x, px, y, py, rfl, rfl, l1, l2, n1, n2, e⟩ := plainOn_two c7
      rw [e] at c8
      have hne := dups_two c8
      have s1 : isStar a = false ∧ isStar b = false := by
        simpa using c2
      have f1 : (foldedForSure 8 a && foldedForSure 8 b) = false := by
        have : ¬ (foldedForSure 8 a && (foldedForSure 8 b && true)) = true := c4
        rw [Bool.and_true] at this
        simpa using this
      have h : (match isStar a || isStar b || !(isPlain env.scope x && isPlain env.scope y && Nat.beq py.line px.line && !eqS x y) with
        | true => some false
        | false => match foldedForSure 8 a && foldedForSure 8 b with
          | true => some false
          | false => match constantsAlone 8 a && constantsAlone 8 b with
            | true => none
            | false => some true) = some false := h
      have hq : eqS x y = false := by
        rw [eqS_dec]
        exact decide_eq_false hne
      have hb : Nat.beq py.line px.line = true := by
        rw [n1, n2]
        exact Nat.beq_refl _
      rw [s1.1, s1.2, isPlain_iff.mpr l1, isPlain_iff.mpr l2, hq, hb, f1] at h
      cases hc : (constantsAlone 8 a && constantsAlone 8 b) with
      | true =>
        rw [hc] at h
        cases h
      | false =>
        rw [hc] at h
        cases h
  | [], c1, _, _, _, _ => cases c1
  | [_], c1, _, _, _, _ => cases c1
  | _ :: _ :: _ :: _ :: r, c1, _, _, _, _ =>
    simp at c1
  | [t1, t2, t3], _, c5, c7, c8, h =>
    match vs, c5, c4, h with
    | [a, b, c], _, c4, h =>
      have f1 : (foldedForSure 8 a && foldedForSure 8 b && foldedForSure 8 c) = false := by
        have : ¬ (foldedForSure 8 a && (foldedForSure 8 b && (foldedForSure 8 c && true))) = true := c4
        rw [Bool.and_true, ← Bool.and_assoc] at this
        simpa using this
      unfold swp2 at h
      split at h
      · rename_i e
        cases e
      · rename_i e
        cases e
      · dsimp only at h
        rw [f1] at h
        cases h
      · rename_i e
        exact e _ _ _ rfl
theorem ss_some {ts vs : List Expr} {j k : Nat} {p q : Pos} (hk : env.scope.kind = .function) (h : swp2 env.scope ts vs = some true) : ∃ x px y py a b, ts = [.Name x px, .Name y py] ∧ vs = [a, b] ∧ env.scope.names.lookup x = some .local ∧ env.scope.names.lookup y = some .local ∧ x ≠ y ∧
    swappedStores [.Tuple ts j p] (.Tuple vs k q) env = pure (some [x, y]) := by
  have hs : ∃ x px y py a b, ts = [.Name x px, .Name y py] ∧ vs = [a, b] := by
    unfold swp2 at h
    split at h
    · split at h
      · exact ⟨_, _, _, _, _, _, rfl, rfl⟩
      · cases h
    · cases h
    · split at h
      · split at h <;> cases h
      · cases h
    · cases h
  obtain ⟨x, px, y, py, a, b, rfl, rfl⟩ := hs
  have h : (match isStar a || isStar b || !(isPlain env.scope x && isPlain env.scope y && Nat.beq py.line px.line && !eqS x y) with
    | true => some false
    | false => match foldedForSure 8 a && foldedForSure 8 b with
      | true => some false
      | false => match constantsAlone 8 a && constantsAlone 8 b with
        | true => none
        | false => some true) = some true := h
  cases h1 : (isStar a || isStar b || !(isPlain env.scope x && isPlain env.scope y && Nat.beq py.line px.line && !eqS x y)) with
  | true => rw [h1] at h; cases h
  | false =>
    rw [h1] at h
    cases h2 : (foldedForSure 8 a && foldedForSure 8 b) with
    | true => rw [h2] at h; cases h
    | false =>
      rw [h2] at h
      cases h3 : (constantsAlone 8 a && constantsAlone 8 b) with
      | true => rw [h3] at h; cases h
      | false =>
        simp only [Bool.or_eq_false_iff, Bool.not_eq_false', Bool.and_eq_true, Bool.not_eq_true'] at h1
        obtain ⟨⟨s1, s2⟩, ⟨⟨p1, p2⟩, hb⟩, hq⟩ := h1
        have hne := eqS_ne hq
        have hl : py.line = px.line := Nat.eq_of_beq_eq_true hb
        refine ⟨x, px, y, py, a, b, rfl, rfl, isPlain_iff.mp p1, isPlain_iff.mp p2, hne, ?_⟩
        have f : [Expr.Name x px, Expr.Name y py].filterMap (plainOn env (([Expr.Name x px, Expr.Name y py].head?.map (·.pos.line)).getD 0)) = [x, y] := by
          have e1 : plainOn env px.line (.Name x px) = some x := by
            show (if (env.scope.names.lookup x == some NameKind.local && px.line == px.line) = true then some x else none) = some x
            rw [isPlain_eq, p1, beq_self_eq_true]
            rfl
          have e2 : plainOn env px.line (.Name y py) = some y := by
            show (if (env.scope.names.lookup y == some NameKind.local && py.line == px.line) = true then some y else none) = some y
            rw [isPlain_eq, p2, hl, beq_self_eq_true]
            rfl
          show [Expr.Name x px, Expr.Name y py].filterMap (plainOn env px.line) = [x, y]
          rw [List.filterMap_cons_some e1, List.filterMap_cons_some e2]
          rfl
        have bk : env.blockKind = .function := by
          unfold Env.blockKind
          rw [hk]
          rfl
        rw [ss_eq, f, bk, dups_two' hne]
        rw [if_neg (by
          intro z
          have z : false = true := z
          cases z), if_neg (by simp [s1, s2]), if_neg (by
          intro z
          have z : false = true := z
          cases z), if_neg (by
          have : (foldedForSure 8 a && (foldedForSure 8 b && true)) = false := by rw [Bool.and_true]; exact h2
          intro z
          have z : (foldedForSure 8 a && (foldedForSure 8 b && true)) = true := z
          rw [this] at z
          cases z), if_neg (by
          have : (constantsAlone 8 a && (constantsAlone 8 b && true)) = false := by rw [Bool.and_true]; exact h3
          intro z
          have z : (constantsAlone 8 a && (constantsAlone 8 b && true)) = true := z
          rw [this] at z
          cases z)]
end
end K76
end

/-! text Stm3 -/
section
namespace K76
open PySem PySem.Spec PyProof.Rows L2
section
variable {g : G} {C : Cx1} {X : Cx} {cl : ClF} {k : Nat} {ih : Ih}
/-- a target that is stored as it is written -/
theorem s_plain (K : StCx g C X cl k ih) {t v : Expr} {pos : Pos} (hs : swapsWithSole [t] v pos.line X.env = pure false) (hw : swappedStores [t] v X.env = pure none) (h1 : (assignEach [t] X.env).map (·.2) = [assign t X.env]) :
    PS X (.Assign [t] v pos) (tS g cl fun σ S => bnd (ih.e false C.sc v σ S) fun d S1 => grd (asgOk C.sc t v) (opt (asgT C C.sc S1 20 t d σ) fun σ1 => some (.nx, σ1, S1))) := by
  refine PS.imp (ps_asg (K.Ie.e v) (g_asgW K.Gd K.up t) hs hw h1) fun D σ H q => ?_
  obtain ⟨ρ, σd, S, oo, σ1, S1, M, e, q1, _⟩ := q
  obtain ⟨d, Sa, e1, e⟩ := bnd_some e
  obtain ⟨_, e⟩ := grd_some e
  obtain ⟨σt, e2, e⟩ := opt_some e
  cases e
  exact ⟨ρ, σd, S, d, _, M, e1, fun ρ1 H1 vv p1 l1 M1 d1 => ⟨ρ1, σd, _, d, _, M1, .inl d1, e2, fun σ' M' c' _ => q1 rfl ρ1 H1 σ' p1 l1 c' M'⟩⟩
theorem s_name (K : StCx g C X cl k ih) {x : Str} {p : Pos} {v : Expr} {pos : Pos} :
    PS X (.Assign [.Name x p] v pos) (tS g cl fun σ S => bnd (ih.e false C.sc v σ S) fun d S1 => grd (asgOk C.sc (.Name x p) v) (opt (asgT C C.sc S1 20 (.Name x p) d σ) fun σ1 => some (.nx, σ1, S1))) := by
  obtain ⟨b, hb, hbt⟩ := sw_name (env := X.env) (x := x) (p := p) v pos.line
  cases b with
  | false => exact s_plain K hb (ss_name v) rfl
  | true =>
    obtain ⟨hc, hl⟩ := hbt rfl
    rcases K.lv with hno | ⟨ih0, A, no, hev⟩
    · refine never_s fun σ S => ?_
      rw [hno]
      rfl
    cases hf : findIx x C.N 0 with
    | none =>
      refine never_s fun σ S => bnd_none fun d Sa => ?_
      cases asgOk C.sc (.Name x p) v with
      | false => rfl
      | true =>
        show opt (asgN C C.sc x d σ) _ = none
        unfold asgN
        rw [hf]
        cases isLoc C.sc x <;> rfl
    | some i =>
      have hi : X.N[i]? = some x := by rw [K.Gd.N]; exact findIx_0 hf
      have fin : ∀ {f : EvT}, (∀ σ S, ih.e false C.sc v σ S = f σ S) → ∀ D σ H, tS g cl (fun σ S => bnd (ih.e false C.sc v σ S) fun d S1 => grd (asgOk C.sc (.Name x p) v) (opt (asgT C C.sc S1 20 (.Name x p) d σ) fun σ1 => some (.nx, σ1, S1))) D σ H → tAsg (tE g cl f) (gName i) D σ H := by
        intro f hfe D σ H q
        obtain ⟨ρ, σd, S, oo, σ1, S1, M, e, q1, _⟩ := q
        obtain ⟨d, Sa, e1, e⟩ := bnd_some e
        obtain ⟨_, e⟩ := grd_some e
        obtain ⟨σt, e2, e⟩ := opt_some e
        cases e
        refine ⟨ρ, σd, S, d, _, M, by rw [← hfe]; exact e1, fun ρ1 H1 vv p1 l1 M1 d1 => ?_⟩
        obtain ⟨j, ej, Mj, cj, _⟩ := asgN_sim K.up M1 d1 (show asgN C C.sc x d σd = some _ from e2)
        rw [hf] at ej
        cases ej
        exact q1 rfl ρ1 H1 _ p1 l1 cj Mj
      cases v with
      | ListComp el gs s q => exact PS.imp (s_setLc (cl := cl) K.Gd K.F no A hi hl hb) (fin fun σ S => hev _ _ _ _ _)
      | SetComp el gs s q => exact never_s fun σ S => bnd_none fun d Sa => rfl
      | DictComp kx vx gs s q =>
        by_cases h1 : ∃ g0, gs = [g0]
        · obtain ⟨g0, rfl⟩ := h1
          exact PS.imp (s_setDc (cl := cl) K.Gd K.F no A (fun _ _ _ _ _ _ z => by cases z) hi hl hb) (fin fun σ S => hev _ _ _ _ _)
        · refine never_s fun σ S => ?_
          rw [hev]
          have : stepE C ih0 false C.sc (.DictComp kx vx gs s q) σ S = none := by
            show (match gs with
              | [_] => evLc C ih0 false C.sc s gs (.dct []) (lcPair ih0 s kx vx) σ S
              | _ => none) = none
            split
            · exact absurd ⟨_, rfl⟩ h1
            · rfl
          rw [this]
          rfl
      | _ => cases hc
theorem s_tuple (K : StCx g C X cl k ih) {ts : List Expr} {j : Nat} {p : Pos} {v : Expr} {pos : Pos} :
    PS X (.Assign [.Tuple ts j p] v pos) (tS g cl fun σ S => bnd (ih.e false C.sc v σ S) fun d S1 => grd (asgOk C.sc (.Tuple ts j p) v) (opt (asgT C C.sc S1 20 (.Tuple ts j p) d σ) fun σ1 => some (.nx, σ1, S1))) := by
  by_cases hv : ∃ vs kq q, v = .Tuple vs kq q
  · obtain ⟨vs, kq, q, rfl⟩ := hv
    cases hsw : swp2 C.sc ts vs with
    | none =>
      refine never_s fun σ S => bnd_none fun d Sa => ?_
      have : asgOk C.sc (.Tuple ts j p) (.Tuple vs kq q) = false := by
        show (match swp2 C.sc ts vs with | some _ => true | none => false) = false
        rw [hsw]
      rw [this]
      rfl
    | some b =>
      rw [← K.sc] at hsw
      cases b with
      | false => exact s_plain K (show swapsWithSole [.Tuple ts j p] (.Tuple vs kq q) pos.line X.env = pure false from sw_tup (env := X.env) (ts := ts) (j := j) (p := p) (.Tuple vs kq q) pos.line) (ss_none hsw) rfl
      | true =>
        rcases K.lv with hno | ⟨ih0, A, no, hev⟩
        · refine never_s fun σ S => ?_
          rw [hno]
          rfl
        refine ⟨fun pins s σ H De I q0 => ?_⟩
        obtain ⟨x, px, y, py, a, b, rfl, rfl, hx, hy, hne, hss⟩ := ss_some (env := X.env) (j := j) (k := kq) (p := p) (q := q) I.ok.kind hsw
        obtain ⟨ρ, σd, S, oo, σ1, S1, M, e, q1, _⟩ := q0
        obtain ⟨d, Sa, e1, e⟩ := bnd_some e
        obtain ⟨_, e⟩ := grd_some e
        obtain ⟨σt, e2, e⟩ := opt_some e
        cases e
        rw [hev] at e1
        obtain ⟨ds, Sb, e3, e4⟩ := bnd_some (show bnd (evs ih0 false C.sc [a, b] σd S) (fun ds S1 => newT S1 ds) = some (d, _) from e1)
        obtain ⟨_, e4⟩ := grd_some (show grd (small ds) (some (D.tup ds, Sb)) = _ from e4)
        cases e4
        have hl := evs_len e3
        match ds, hl, e2, e3 with
        | [d1, d2], _, e2, e3 =>
          obtain ⟨σa, f1, f2⟩ := opt_some (show opt (asgN C C.sc x d1 σd) (fun σ1 => opt (asgN C C.sc y d2 σ1) fun σ2 => some σ2) = some _ from e2)
          obtain ⟨σb, f2, f3⟩ := opt_some f2
          cases f3
          have find : ∀ {z : Str} {dz : D} {τ τ1 : Env1}, asgN C C.sc z dz τ = some τ1 → ∃ i, findIx z C.N 0 = some i := fun {z dz τ τ1} e => by
            obtain ⟨_, e⟩ := grd_some e
            obtain ⟨i, e1, e⟩ := opt_some e
            exact ⟨i, e1⟩
          obtain ⟨i, hi⟩ := find f1
          obtain ⟨l, hl⟩ := find f2
          have hij : i ≠ l := by
            rintro rfl
            have h1 := findIx_0 hi
            have h2 := findIx_0 hl
            rw [h1] at h2
            cases h2
            exact hne rfl
          have Ie0 := A.e X false C.sc cl K.Gd
          refine (ps_par K.Gd.calm (by rw [K.Gd.N]; exact K.Gd.nd) (by rw [K.Gd.N]; exact findIx_0 hi) (by rw [K.Gd.N]; exact findIx_0 hl) hij hx hy (a_evs Ie0 (no.star _ _) [a, b]).1 hss (show swapsWithSole [.Tuple [.Name x px, .Name y py] j p] (.Tuple [a, b] kq q) pos.line X.env = pure false from sw_tup (env := X.env) (ts := [.Name x px, .Name y py]) (j := j) (p := p) (.Tuple [a, b] kq q) pos.line)).run pins s σ H De I ?_
          refine ⟨ρ, σd, S, [d1, d2], _, M, e3, fun ρ1 H1 vs p1 l1 M1 dv => ?_⟩
          obtain ⟨v1, r, rfl, hv1, v2, r2, rfl, hv2, hr⟩ := dv
          have hr : r2 = [] := hr
          subst hr
          obtain ⟨i', ei, Mi, ci, _⟩ := asgN_sim K.up M1 hv1 f1
          rw [hi] at ei
          cases ei
          obtain ⟨l', el, Ml, c2, _⟩ := asgN_sim K.up Mi (hv2.mono (Pre.refl _) (Le.refl _) ci) f2
          rw [hl] at el
          cases el
          exact ⟨v1, v2, rfl, q1 rfl ρ1 H1 _ p1 l1 (fun a b z => c2 a b (ci a b z)) Ml⟩
  · exact s_plain K (show swapsWithSole [.Tuple ts j p] v pos.line X.env = pure false from sw_tup (env := X.env) (ts := ts) (j := j) (p := p) v pos.line) (ss_tup fun vs kq q z => hv ⟨vs, kq, q, z⟩) rfl
/-- a statement -/
theorem s_step (K : StCx g C X cl k ih) (hsl : ∀ bk sc a b c p, ih.e bk sc (.Slice a b c p) = fun _ _ => none) (st : Stmt) : PS X st (tS g cl (stepS C ih st)) := by
  cases st with
  | Assign ts v pos =>
    match ts with
    | [t] =>
      cases t with
      | Attribute o f p => exact s_attr K
      | Subscript o i p => exact s_sub K hsl
      | Name x p => exact s_name K
      | Tuple ts j p => exact s_tuple K
      | _ => exact never_s fun σ S => bnd_none fun d Sa => rfl
    | [] => exact never_s fun σ S => rfl
    | _ :: _ :: _ => exact never_s fun σ S => rfl
  | AugAssign t op v pos =>
    cases t with
    | Attribute o f p =>
      cases op with
      | Add => exact s_aug K
      | _ => exact never_s fun σ S => rfl
    | _ => exact never_s fun σ S => rfl
  | If t a b pos => exact s_if K
  | For t it b o pos =>
    match o with
    | [] => exact s_for K
    | _ :: _ => exact never_s fun σ S => rfl
  | While t b o pos =>
    match o with
    | [] => exact s_while K
    | _ :: _ => exact never_s fun σ S => rfl
  | Return o pos =>
    cases o with
    | none => exact never_s fun σ S => rfl
    | some e => exact s_ret K
  | Expr e pos => exact s_expr K
  | Pass pos => exact s_pass
  | Try b hs o f pos =>
    by_cases h : ∃ x p q r t, hs = [.ExceptHandler (some (.Name x p)) none q r] ∧ o = [] ∧ f = [] ∧ t = x
    · obtain ⟨x, p, q, r, t, rfl, rfl, rfl, _⟩ := h
      cases hg : (isGlo C.sc x && hasK x C.P.clss) with
      | true =>
        refine PS.imp (s_try K) fun D σ H q0 => ?_
        obtain ⟨ρ, σd, S, oo, σ1, S1, M, e, q1⟩ := q0
        exact ⟨ρ, σd, S, oo, σ1, S1, M, (grd_some (show grd (isGlo C.sc x && hasK x C.P.clss) (ih.ss b σd S) = _ from e)).2, q1⟩
      | false =>
        refine never_s fun σ S => ?_
        show grd (isGlo C.sc x && hasK x C.P.clss) _ = none
        rw [hg]
        rfl
    · refine never_s fun σ S => ?_
      unfold stepS
      dsimp only
      split
      · exact absurd ⟨_, _, _, _, _, rfl, rfl, rfl, rfl⟩ h
      · rfl
  | _ => exact never_s fun σ S => rfl
theorem ss_all (K : StCx g C X cl k ih) (hsl : ∀ bk sc a b c p, ih.e bk sc (.Slice a b c p) = fun _ _ => none) : ∀ l : List Stmt, PSs X l (tS g cl (stepSs C ih l))
  | [] => PSs.imp pss_nil fun D σ H q => by
    obtain ⟨ρ, σd, S, o, σ1, S1, M, e, q1, _⟩ := q
    cases e
    exact q1 rfl ρ H σ (Pre.refl _) (Le.refl _) (clRefl cl _ _) M
  | s :: r => PSs.imp (pss_cons (s_step K hsl s) (ss_all K hsl r)) fun D σ H q => by
    obtain ⟨ρ, σd, S, o, σ1, S1, M, e, q1, q2⟩ := q
    obtain ⟨o1, p, e1, e⟩ := bnd_some (show bnd (stepS C ih s σd S) (fun o p => match o with
      | .nx => stepSs C ih r p.1 p.2
      | .ret d => some (Out.ret d, p)) = some (o, σ1, S1) from e)
    refine ⟨ρ, σd, S, o1, p.1, p.2, M, e1, fun z ρ' H' σ' p1 l1 c1 M1 => ?_, fun d z ρ' H' σ' v p1 l1 c1 M1 d1 => ?_⟩
    · subst z
      exact ⟨ρ', p.1, p.2, o, σ1, S1, M1, e, fun z ρ2 H2 σ2 p2 l2 c2 M2 => q1 z ρ2 H2 σ2 (p1.trans p2) (l1.trans l2) (fun a b z => c2 a b (c1 a b z)) M2, fun d z ρ2 H2 σ2 v p2 l2 c2 M2 d2 => q2 d z ρ2 H2 σ2 v (p1.trans p2) (l1.trans l2) (fun a b z => c2 a b (c1 a b z)) M2 d2⟩
    · subst z
      cases e
      exact q2 d rfl ρ' H' σ' v p1 l1 c1 M1 d1
end
end K76
end

/-! text Bnd -/
section
namespace K76
open PySem PySem.Spec PyProof.Rows
section
variable {α : Type}
theorem hasK_iff {x : Str} {l : List (Str × α)} : hasK x l = false ↔ ∀ q ∈ l, q.1 ≠ x := by
  unfold hasK
  induction l with
  | nil => exact ⟨fun _ q hq => (by cases hq), fun _ => rfl⟩
  | cons p r ih =>
    rw [look]
    cases h : eqS p.1 x with
    | true => exact ⟨fun z => (by cases z), fun z => absurd (eqS_iff.mp h) (z p List.mem_cons_self)⟩
    | false =>
      refine ⟨fun z q hq => ?_, fun z => ih.mpr fun q hq => z q (List.mem_cons_of_mem _ hq)⟩
      rcases List.mem_cons.mp hq with rfl | hq
      · exact eqS_ne h
      · exact ih.mp z q hq
theorem look_lookup {x : Str} {l : List (Str × α)} : look x l = l.lookup x := look_eq x l
theorem nodupS_iff : ∀ {l : List Str}, nodupS l = true → l.Nodup
  | [], _ => List.nodup_nil
  | x :: r, h => by
    have h : (match hasS x r with | true => false | false => nodupS r) = true := h
    cases hx : hasS x r with
    | true => rw [hx] at h; cases h
    | false =>
      rw [hx] at h
      refine List.nodup_cons.mpr ⟨fun z => ?_, nodupS_iff h⟩
      rw [hasS_iff.mpr z] at hx
      cases hx
theorem kwGo_at {kws : List (Str × α)} {dfl : List α} : ∀ {l : List Str} {q : List α}, kwGo kws dfl l = some q → q.length = l.length ∧ ∀ (i : Nat) (p : Str), l[i]? = some p →
    (∃ d, kws.lookup p = some d ∧ q[i]? = some d) ∨ (kws.lookup p = none ∧ l.length - i ≤ dfl.length ∧ ∃ d, dfl[dfl.length - (l.length - i)]? = some d ∧ q[i]? = some d)
  | [], q, h => by
    cases h
    exact ⟨rfl, fun i p e => by simp at e⟩
  | p :: r, q, h => by
    rw [kwGo] at h
    cases hl : look p kws with
    | some d =>
      rw [hl] at h
      obtain ⟨q', e1, h⟩ := opt_some h
      cases h
      obtain ⟨i1, i2⟩ := kwGo_at e1
      refine ⟨by rw [List.length_cons, List.length_cons, i1], fun i x e => ?_⟩
      cases i with
      | zero =>
        simp at e
        subst e
        exact .inl ⟨d, by rw [← look_lookup]; exact hl, rfl⟩
      | succ i =>
        have := i2 i x (by simpa using e)
        simpa [List.length_cons, Nat.add_sub_add_right] using this
    | none =>
      rw [hl] at h
      cases hb : Nat.ble (r.length + 1) dfl.length with
      | false => rw [hb] at h; cases h
      | true =>
        rw [hb] at h
        obtain ⟨d, e1, h⟩ := opt_some h
        obtain ⟨q', e2, h⟩ := opt_some h
        cases h
        rw [nth_eq] at e1
        obtain ⟨i1, i2⟩ := kwGo_at e2
        refine ⟨by rw [List.length_cons, List.length_cons, i1], fun i x e => ?_⟩
        cases i with
        | zero =>
          simp at e
          subst e
          exact .inr ⟨by rw [← look_lookup]; exact hl, Nat.le_of_ble_eq_true hb, d, e1, rfl⟩
        | succ i =>
          have := i2 i x (by simpa using e)
          simpa [List.length_cons, Nat.add_sub_add_right] using this
theorem zip_lookup {x : Str} {v : α} : ∀ {P : List Str} {us : List α} {i : Nat}, P.Nodup → P[i]? = some x → us[i]? = some v → (P.zip us).lookup x = some v
  | [], _, _, _, h, _ => by simp at h
  | _ :: _, [], _, _, _, h => by simp at h
  | p :: P, u :: us, 0, nd, h1, h2 => by
    simp at h1 h2
    subst h1 h2
    rw [List.zip_cons_cons, List.lookup_cons, beq_self_eq_true]
  | p :: P, u :: us, i + 1, nd, h1, h2 => by
    have h1 : P[i]? = some x := by simpa using h1
    have hne : (x == p) = false := beq_eq_false_iff_ne.mpr (fun z => (List.nodup_cons.mp nd).1 (by rw [← z]; exact List.mem_of_getElem? h1))
    rw [List.zip_cons_cons, List.lookup_cons, hne]
    exact zip_lookup (List.nodup_cons.mp nd).2 h1 (by simpa using h2)
theorem zip_none {x : Str} : ∀ {P : List Str} {us : List α}, x ∉ P.take us.length → (P.zip us).lookup x = none
  | [], _, _ => rfl
  | _ :: _, [], _ => rfl
  | p :: P, u :: us, h => by
    rw [List.length_cons, List.take_succ_cons, List.mem_cons, not_or] at h
    have hne : (x == p) = false := beq_eq_false_iff_ne.mpr h.1
    rw [List.zip_cons_cons, List.lookup_cons, hne]
    exact zip_none h.2
theorem lookup_none_mem {x : Str} : ∀ {l : List (Str × α)}, (∀ p ∈ l, p.1 ≠ x) → l.lookup x = none
  | [], _ => rfl
  | p :: r, h => by
    have hne : (x == p.1) = false := beq_eq_false_iff_ne.mpr (Ne.symm (h p List.mem_cons_self))
    rw [List.lookup_cons, hne]
    exact lookup_none_mem fun q hq => h q (List.mem_cons_of_mem _ hq)
theorem lookup_app (x : Str) (l m : List (Str × α)) : (l ++ m).lookup x = (l.lookup x).or (m.lookup x) := by
  induction l with
  | nil => rfl
  | cons p r ih =>
    rw [List.cons_append, List.lookup_cons, List.lookup_cons]
    cases h : (x == p.1) with
    | true => rfl
    | false => exact ih
theorem filter_zip {f : Str → Option α} : ∀ {P : List Str} {rs : List α}, rs.length = P.length → (∀ (i : Nat) (n : Str), P[i]? = some n → f n = rs[i]?) → P.filterMap (fun n => (f n).map (n, ·)) = P.zip rs
  | [], rs, _, _ => by simp
  | p :: P, [], h, _ => by cases h
  | p :: P, r :: rs, h, hf => by
    have h0 := hf 0 p rfl
    have h0 : f p = some r := h0
    rw [List.filterMap_cons_some (by rw [h0]; rfl), List.zip_cons_cons]
    rw [filter_zip (by simpa using h) fun i n e => by simpa using hf (i + 1) n (by simpa using e)]
end
theorem nodup_take {P : List Str} {x : Str} {n : Nat} (nd : P.Nodup) (h : x ∈ P.drop n) : x ∉ P.take n := fun z => by
  have e := List.take_append_drop n P
  rw [← e] at nd
  exact (List.nodup_append.mp nd).2.2 x z x h rfl
/-- arguments go to their parameters -/
theorem bind_wp {s : Shared} {fd : FuncData} {names : List Arg} {us dv rs : List Value} {kws : List (Str × Value)} (hp : ∃ a b, fd.params = ⟨[], names, none, [], a, none, b⟩)
    (hd : ∀ (M : Model) (A : Around) (E : Value → Shared → Prop) (Q : Option (Array Value) → Shared → Prop), (∀ o : Option (Array Value), (o.getD #[]).toList = dv → Q o s) → wpAny M A (seqItems? fd.defaults) Q E s)
    (hnd : (names.map (·.arg)).Nodup) (hdl : dv.length ≤ names.length) (hb : bindD (names.map (·.arg)) dv us kws = some rs) : BindsTo s fd ⟨us, kws⟩ ((names.map (·.arg)).zip rs) := by
  obtain ⟨a, b, hp⟩ := hp
  have hPl : (names.map (·.arg)).length = names.length := List.length_map _
  generalize hP : names.map (·.arg) = P at hnd hb hPl
  obtain ⟨hb1, hb2⟩ := grd_some hb
  obtain ⟨hb1, hb3⟩ := Bool.and_eq_true_iff.mp hb1
  have hb1 : us.length ≤ P.length := Nat.le_of_ble_eq_true hb1
  obtain ⟨q, hq1, hb2⟩ := opt_some hb2
  cases hb2
  obtain ⟨ql, qa⟩ := kwGo_at hq1
  have drop_at : ∀ (i : Nat), (P.drop us.length)[i]? = P[us.length + i]? := fun i => by rw [List.getElem?_drop]
  intro M A E Q hq
  unfold bindArgs
  rw [hp]
  dsimp only
  rw [show ([] : List Arg).map (·.arg) ++ names.map (·.arg) = P from hP, hP]
  refine wpAny_bind ?_
  refine wpAny_forIn_list _ (fun rest r s' => s' = s ∧ r.2 = [] ∧ ∃ done, r.1 = P.zip us ++ done ∧ kws = done ++ rest ∧ kwFit (P.drop us.length) rest = true ∧ ∀ p ∈ done, ∀ q ∈ rest, p.1 ≠ q.1) _ ?_ ?_ _ _ ⟨rfl, rfl, [], by simp, rfl, hb3, fun p hp => by cases hp⟩
  · rintro ⟨kk, v⟩ rest ⟨r1, r2⟩ s' ⟨rfl, hr2, done, hr1, hk, hfit, hdis⟩
    dsimp only at hr1 hr2 ⊢
    subst hr1 hr2
    have hfit : (match hasS kk (P.drop us.length) && !hasK kk rest with | true => kwFit (P.drop us.length) rest | false => false) = true := hfit
    cases hc : hasS kk (P.drop us.length) && !hasK kk rest with
    | false => rw [hc] at hfit; cases hfit
    | true =>
      rw [hc] at hfit
      obtain ⟨h1, h2⟩ := Bool.and_eq_true_iff.mp hc
      have h1 := hasS_iff.mp h1
      have h2 : hasK kk rest = false := by simpa using h2
      have hin : kk ∈ P := List.mem_of_mem_drop h1
      rw [if_pos (by rw [List.contains_iff_mem.mpr hin]; rfl)]
      have hno : ((P.zip us ++ done).lookup kk) = none := by
        rw [lookup_app, zip_none (nodup_take hnd h1), lookup_none_mem fun p hp => hdis p hp _ List.mem_cons_self]
        rfl
      rw [if_neg (by rw [hno]; exact Bool.false_ne_true)]
      refine wpAny_pure ⟨rfl, rfl, done ++ [(kk, v)], by rw [List.append_assoc], by rw [hk, List.append_assoc]; rfl, hfit, fun p hp q hq => ?_⟩
      rcases List.mem_append.mp hp with hp | hp
      · exact hdis p hp q (List.mem_cons_of_mem _ hq)
      · rw [List.mem_singleton.mp hp]
        exact Ne.symm (hasK_iff.mp h2 q hq)
  · rintro ⟨r1, r2⟩ s' ⟨rfl, hr2, done, hr1, hk, _, _⟩
    dsimp only at hr1 hr2 ⊢
    rw [List.append_nil] at hk
    subst hr1 hr2 hk
    refine wpAny_bind (hd _ _ _ _ fun o ho => ?_)
    rw [ho]
    rw [if_neg (by
      rw [Bool.and_eq_true, decide_eq_true_eq]
      omega)]
    have hfd : dv.length - P.length = 0 := by omega
    rw [hfd, List.drop_zero]
    -- what is missing
    have tot : ∀ (i : Nat) (n : Str), P[i]? = some n → (i < us.length ∧ (P.zip us).lookup n = (us ++ q)[i]?) ∨ (us.length ≤ i ∧ (P.zip us).lookup n = none ∧ ((∃ d, kws.lookup n = some d ∧ (us ++ q)[i]? = some d) ∨ (kws.lookup n = none ∧ P.length - i ≤ dv.length ∧ ∃ d, dv[dv.length - (P.length - i)]? = some d ∧ (us ++ q)[i]? = some d))) := fun i n e => by
      by_cases hi : i < us.length
      · refine .inl ⟨hi, ?_⟩
        rw [List.getElem?_append_left hi, List.getElem?_eq_getElem hi]
        exact zip_lookup hnd e (List.getElem?_eq_getElem hi)
      · have hi : us.length ≤ i := Nat.le_of_not_lt hi
        have hx : (P.drop us.length)[i - us.length]? = some n := by rw [drop_at, Nat.add_sub_cancel' hi]; exact e
        refine .inr ⟨hi, zip_none (nodup_take hnd (List.mem_of_getElem? hx)), ?_⟩
        rw [List.getElem?_append_right hi]
        rcases qa (i - us.length) n hx with ⟨d, h1, h2⟩ | ⟨h0, h1, d, h2, h3⟩
        · exact .inl ⟨d, h1, h2⟩
        · rw [List.length_drop, show P.length - us.length - (i - us.length) = P.length - i from by omega] at h1 h2
          exact .inr ⟨h0, h1, d, h2, h3⟩
    have slots0 : ∀ n, (P.zip us ++ kws).lookup n = ((P.zip us).lookup n).or (kws.lookup n) := fun n => lookup_app n _ _
    have hmiss : ((P.take (P.length - dv.length)).filter fun n => ((P.zip us ++ kws).lookup n).isNone) = [] := by
      rw [List.filter_eq_nil_iff]
      intro n hn hz
      obtain ⟨i, hi, e⟩ := List.getElem_of_mem hn
      have e2 : P[i]? = some n := by
        have := List.getElem?_eq_getElem hi
        rw [e, List.getElem?_take] at this
        split at this
        · exact this
        · cases this
      have hil : i < P.length - dv.length := by
        rw [List.length_take] at hi
        omega
      rw [slots0] at hz
      rcases tot i n e2 with ⟨h1, h2⟩ | ⟨h1, h2, ⟨d, h3, _⟩ | ⟨_, h3, _⟩⟩
      · rw [h2, List.getElem?_append_left h1, List.getElem?_eq_getElem h1] at hz
        cases hz
      · rw [h2, h3] at hz
        cases hz
      · omega
    rw [hmiss]
    rw [if_neg (show ¬ ((!([] : List Str).isEmpty) = true) from Bool.false_ne_true)]
    refine wpAny_bind ?_
    refine wpAny_forIn_list _ (fun rest r s'' => s'' = s' ∧ ∃ dn, (P.drop (P.length - dv.length)).zip dv = dn ++ rest ∧ ∀ n, r.lookup n = ((P.zip us ++ kws).lookup n).or (dn.lookup n)) _ ?_ ?_ _ _ ⟨rfl, [], rfl, fun n => by simp⟩
    · rintro ⟨n0, d0⟩ rest r s'' ⟨rfl, dn, hdn, hr⟩
      dsimp only
      have hd1 : ∀ m, (dn ++ [(n0, d0)]).lookup m = (dn.lookup m).or ([(n0, d0)].lookup m) := fun m => lookup_app m _ _
      by_cases hs : (r.lookup n0).isNone = true
      · rw [if_pos hs]
        refine wpAny_pure ⟨rfl, dn ++ [(n0, d0)], by rw [hdn, List.append_assoc]; rfl, fun m => ?_⟩
        rw [lookup_app, hr, hd1, Option.or_assoc]
      · rw [if_neg hs]
        refine wpAny_pure ⟨rfl, dn ++ [(n0, d0)], by rw [hdn, List.append_assoc]; rfl, fun m => ?_⟩
        rw [hd1, ← Option.or_assoc, ← hr]
        by_cases hm : m = n0
        · subst hm
          cases hx : r.lookup m with
          | none => rw [hx] at hs; exact absurd rfl hs
          | some _ => rfl
        · have hne : (m == n0) = false := beq_eq_false_iff_ne.mpr hm
          rw [show [(n0, d0)].lookup m = none from by rw [List.lookup_cons, hne]; rfl, Option.or_none]
    · rintro r s'' ⟨rfl, dn, hdn, hr⟩
      rw [List.append_nil] at hdn
      subst hdn
      have hr2 : ∀ (i : Nat) (n : Str), P[i]? = some n → r.lookup n = (us ++ q)[i]? := fun i n e => by
        rw [hr, slots0]
        rcases tot i n e with ⟨h1, h2⟩ | ⟨h1, h2, ⟨d, h3, h4⟩ | ⟨h0, h3, d, h4, h5⟩⟩
        · rw [h2, List.getElem?_append_left h1, List.getElem?_eq_getElem h1]
          rfl
        · rw [h2, h3, h4]
          rfl
        · rw [h2, h0, h5]
          have hi : i < P.length := (List.getElem?_eq_some_iff.mp e).1
          have nd2 : (P.drop (P.length - dv.length)).Nodup := hnd.sublist (List.drop_sublist _ _)
          have := zip_lookup (P := P.drop (P.length - dv.length)) (us := dv) (i := dv.length - (P.length - i)) (x := n) (v := d) nd2 (by rw [List.getElem?_drop, show P.length - dv.length + (dv.length - (P.length - i)) = i from by omega]; exact e) h4
          rw [this]
          rfl
      have fin : P.filterMap (fun n => (r.lookup n).map (n, ·)) = P.zip (us ++ q) := filter_zip (by rw [List.length_append, ql, List.length_drop]; omega) hr2
      refine wpAny_bind (wpAny_pure ?_)
      dsimp only
      rw [if_neg (show ¬ ((!([] : List Str).isEmpty) = true) from Bool.false_ne_true)]
      rw [show P ++ ([] : List Arg).map (·.arg) = P from List.append_nil P, fin]
      exact wpAny_pure hq
end K76
end

/-! text Fst -/
section
namespace K76
open PySem PySem.Spec PyProof.Rows L2
section
variable {g : G} {C : Cx1} {X : Cx} {bk : Bool} {sc : Scope} {cl : ClF} {k : Nat} {ih : Ih}
/-! ### dict displays -/
def trsOf (g : G) (cl : ClF) (ih : Ih) (bk : Bool) (sc : Scope) : List (Option Expr) → List Expr → List (TE × TE)
  | some k :: ks, v :: vs => (tE g cl (ih.e bk sc k), tE g cl (ih.e bk sc v)) :: trsOf g cl ih bk sc ks vs
  | _, _ => []
/-- pairs and their values -/
inductive PsR (g : G) (ρ : List Addr) (H : Hp) (c : Cl) : List (D × D) → List (V × V) → Prop where
  | nil : PsR g ρ H c [] []
  | cons {p : D × D} {q : V × V} {r : List (D × D)} {t : List (V × V)} (h1 : DV g ρ H c p.1 q.1) (h2 : DV g ρ H c p.2 q.2) (h : PsR g ρ H c r t) : PsR g ρ H c (p :: r) (q :: t)
theorem ev_shape : ∀ {ks : List (Option Expr)} {vs : List Expr} {σ : Env1} {S S1 : Sto} {kvs : List (D × D)}, evDict ih bk sc ks vs σ S = some (kvs, S1) → ks.all (·.isSome) = true ∧ ks.length = vs.length ∧ kvs.length = ks.length
  | [], [], _, _, _, _, e => by
    cases e
    exact ⟨rfl, rfl, rfl⟩
  | [], _ :: _, _, _, _, _, e => by cases e
  | _ :: _, [], _, _, _, _, e => by cases e
  | o :: ks, v :: vs, σ, S, S1, kvs, e => by
    obtain ⟨kx, ho, e0⟩ := opt_some (show opt o (fun k => bnd (ih.e bk sc k σ S) fun d S1 => bnd (ih.e bk sc v σ S1) fun x S2 => bnd (evDict ih bk sc ks vs σ S2) fun q S3 => some ((d, x) :: q, S3)) = some (kvs, S1) from e)
    subst ho
    obtain ⟨d, Sa, e1, e0⟩ := bnd_some e0
    obtain ⟨x, Sb, e2, e0⟩ := bnd_some e0
    obtain ⟨q, Sc, e3, e0⟩ := bnd_some e0
    cases e0
    obtain ⟨a, b, c⟩ := ev_shape e3
    exact ⟨by rw [List.all_cons, a]; rfl, by rw [List.length_cons, List.length_cons, b], by rw [List.length_cons, List.length_cons, c]⟩
theorem pps_all (Ie : IhE g X bk sc cl ih) {pos : Pos} : ∀ {ks : List (Option Expr)} {vs : List Expr}, ks.all (·.isSome) = true → ks.length = vs.length → PPs X pos ks vs (trsOf g cl ih bk sc ks vs)
  | [], [], _, _ => pps_nil
  | [], _ :: _, _, h => by cases h
  | _ :: _, [], _, h => by cases h
  | none :: ks, v :: vs, h, _ => by cases h
  | some kx :: ks, v :: vs, h, hl => pps_cons (Ie.e kx) (Ie.e v) (pps_all Ie (by simpa using h) (by simpa using hl))
theorem rd_pairs : ∀ {ks : List (Option Expr)} {vs : List Expr} {σd : Env1} {σ : L2.St} {S S1 : Sto} {kvs : List (D × D)} {ρ : List Addr} {H : Hp} {Q : List (V × V) → Hp → Prop}, Sim g (cl σd σ) ρ S H σd σ → evDict ih bk sc ks vs σd S = some (kvs, S1) →
    (∀ ρ' H' ps, Pre ρ ρ' → Le H H' → Sim g (cl σd σ) ρ' S1 H' σd σ → PsR g ρ' H' (cl σd σ) kvs ps → Q ps H') → tPairs (trsOf g cl ih bk sc ks vs) σ H Q
  | [], [], _, _, _, _, _, ρ, H, _, M, e, q => by
    cases e
    exact q ρ H [] (Pre.refl _) (Le.refl _) M .nil
  | [], _ :: _, _, _, _, _, _, _, _, _, _, e, _ => by cases e
  | _ :: _, [], _, _, _, _, _, _, _, _, _, e, _ => by cases e
  | o :: ks, v :: vs, σd, σ, S, S1, kvs, ρ, H, Q, M, e, q => by
    obtain ⟨kx, ho, e0⟩ := opt_some (show opt o (fun k => bnd (ih.e bk sc k σd S) fun d S1 => bnd (ih.e bk sc v σd S1) fun x S2 => bnd (evDict ih bk sc ks vs σd S2) fun q S3 => some ((d, x) :: q, S3)) = some (kvs, S1) from e)
    subst ho
    obtain ⟨d, Sa, e1, e0⟩ := bnd_some e0
    obtain ⟨x, Sb, e2, e0⟩ := bnd_some e0
    obtain ⟨r, Sc, e3, e0⟩ := bnd_some e0
    cases e0
    refine ⟨ρ, σd, S, d, Sa, M, e1, fun ρ1 H1 u p1 l1 M1 d1 => ⟨ρ1, σd, Sa, x, Sb, M1, e2, fun ρ2 H2 w p2 l2 M2 d2 => rd_pairs (ks := ks) M2 e3 fun ρ3 H3 ps p3 l3 M3 d3 => ?_⟩⟩
    exact q ρ3 H3 _ ((p1.trans p2).trans p3) ((l1.trans l2).trans l3) M3 (.cons (d1.mono (p2.trans p3) (l2.trans l3) fun _ _ z => z) (d2.mono p3 l3 fun _ _ z => z) d3)
theorem ps_keys {ρ : List Addr} {H : Hp} {c : Cl} : ∀ {kvs : List (D × D)} {ps : List (V × V)}, keysD kvs = true → PsR g ρ H c kvs ps → ∃ kl : List (Key × V), ps = kl.map (fun kv => (kV kv.1, kv.2)) ∧ KvR g ρ H c kvs kl
  | [], _, _, .nil => ⟨[], rfl, rfl⟩
  | p :: r, _, hk, .cons (q := q) h1 h2 h => by
    have hk : (match isKeyD p.1 with | true => keysD r | false => false) = true := hk
    cases hp : isKeyD p.1 with
    | false => rw [hp] at hk; cases hk
    | true =>
      rw [hp] at hk
      obtain ⟨kl, rfl, i2⟩ := ps_keys hk h
      obtain ⟨kk, ek⟩ := isKey_keyD hp
      have e1 := h1.key ek
      refine ⟨(kk, q.2) :: kl, ?_, ⟨kk, q.2, kl, rfl, ek, h2, i2⟩⟩
      rw [List.map_cons, ← e1]
theorem merge_ok {ρ : List Addr} {H : Hp} {c : Cl} : ∀ {kvs acc q : List (D × D)} {kl al : List (Key × V)}, KvR g ρ H c kvs kl → KvR g ρ H c acc al → (al.map (·.1)).Nodup → headD isKeyD acc = true → mergeD acc kvs = some q →
    KvR g ρ H c q (mergeK al kl) ∧ ((mergeK al kl).map (·.1)).Nodup ∧ headD isKeyD q = true
  | [], acc, q, kl, al, h, ha, hn, hh, e => by
    cases e
    have h : kl = [] := h
    subst h
    exact ⟨ha, hn, hh⟩
  | p :: r, acc, q, kl, al, ⟨kk, v, kr, e0, ek, hv, h⟩, ha, hn, hh, e => by
    subst e0
    obtain ⟨q1, e1, e⟩ := opt_some (show opt (dSet p.1 p.2 acc) (fun q => mergeD q r) = some q from e)
    obtain ⟨_, e1⟩ := grd_some e1
    obtain ⟨i1, i2, i3, i4⟩ := KvR.put ek hv hn ha e1
    exact merge_ok (acc := q1) (al := putK al kk v) h i1 (putK_keys kk v al hn).1 (i3 hh) e
theorem e_dict (Ie : IhE g X bk sc cl ih) {ks : List (Option Expr)} {vs : List Expr} {pos : Pos} : PE X (.Dict ks vs pos) (tE g cl fun σ S => bnd (evDict ih bk sc ks vs σ (S ++ [.dct []])) fun kvs S1 => opt (nth S1 S.length) fun o => match o with
    | .dct [] => grd (keysD kvs && Nat.ble kvs.length 15) (opt (mergeD [] kvs) fun q => some (.loc S.length, setN S1 S.length (.dct q)))
    | _ => none) := by
  refine ⟨fun pins s σ H Q I h => ?_⟩
  obtain ⟨ρ, σd, S, d, S1, M, e, q⟩ := h
  obtain ⟨kvs, Sa, e1, e⟩ := bnd_some e
  obtain ⟨o, e2, e⟩ := opt_some e
  rw [nth_eq] at e2
  split at e
  · obtain ⟨e3, e⟩ := grd_some e
    obtain ⟨qd, e4, e⟩ := opt_some e
    cases e
    rw [setN_eq] at q
    obtain ⟨e3, e5⟩ := Bool.and_eq_true_iff.mp e3
    have e5 : kvs.length ≤ 15 := Nat.le_of_ble_eq_true e5
    obtain ⟨s1, s2, s3⟩ := ev_shape e1
    have start : ∀ {p : Addr}, H p = none → Sim g (cl σd σ) (ρ ++ [p]) (S ++ [.dct []]) (upd H p (.dK [])) σd σ := fun {p} hp => M.push hp (.inl ⟨rfl, [], upd_same, by simp, rfl⟩)
    have loc : ∀ {p : Addr}, (ρ ++ [p])[S.length]? = some p := fun {p} => by
      rw [List.getElem?_append_right (by rw [M.rel.len]; exact Nat.le_refl _), M.rel.len, Nat.sub_self]
      rfl
    have fin : ∀ {p : Addr} {ρ' : List Addr} {H' : Hp} {ps : List (V × V)}, H p = none → Pre (ρ ++ [p]) ρ' → Le (upd H p (.dK [])) H' → Sim g (cl σd σ) ρ' Sa H' σd σ → PsR g ρ' H' (cl σd σ) kvs ps →
        H' p = some (.dK []) ∧ ∃ kl : List (Key × V), ps = kl.map (fun kv => (kV kv.1, kv.2)) ∧ kl.length ≤ 15 ∧ Q (.ref p) (upd H' p (.dK (mergeK [] kl))) := by
      intro p ρ' H' ps hp hpre hle M' dp
      have hloc := hpre.get (loc (p := p))
      have hor := M'.rel.sto _ _ _ e2 hloc
      have hH : H' p = some (.dK []) := by
        rcases hor with ⟨_, ks', h1, _, h2⟩ | ⟨h1, _⟩
        · have h2 : ks' = [] := h2
          rw [h1, h2]
        · exact absurd rfl h1
      obtain ⟨kl, rfl, hkl⟩ := ps_keys e3 dp
      refine ⟨hH, kl, rfl, by rw [← hkl.length]; exact e5, ?_⟩
      have lw : Le H' (upd H' p (.dK (mergeK [] kl))) := le_write hH trivial
      obtain ⟨m1, m2, m3⟩ := merge_ok hkl (show KvR g ρ' H' (cl σd σ) [] [] from rfl) (by simp) rfl e4
      exact q ρ' _ _ ((show Pre ρ (ρ ++ [p]) from ⟨_, rfl⟩).trans hpre) (((le_new hp).trans hle).trans lw) (M'.set hloc hH trivial (.inl ⟨m3, _, upd_same, m2, KvR.mono (Pre.refl _) lw (fun _ _ z => z) m1⟩)) ⟨p, hloc, rfl⟩
    cases ks with
    | nil =>
      cases vs with
      | cons _ _ => cases s2
      | nil =>
        cases e1
        refine pe_dnewK.run pins s σ H Q I fun p hp => ?_
        obtain ⟨_, kl, ekl, _, hq⟩ := fin (ps := []) hp (Pre.refl _) (Le.refl _) (start hp) .nil
        cases kl with
        | cons _ _ => cases ekl
        | nil =>
          have : upd (upd H p (.dK [])) p (.dK (mergeK [] [])) = upd H p (.dK []) := by
            funext b
            by_cases hb : b = p
            · subst hb
              rw [upd_same, upd_same]
              rfl
            · rw [upd_ne hb]
          rw [this] at hq
          exact hq
    | cons k0 ks =>
      refine (pe_disp (pps_all Ie s1 s2) s1 s2 (by simp) (by rw [← s3]; exact e5)).run pins s σ H Q I fun p hp => ?_
      exact rd_pairs (start hp) e1 fun ρ' H' ps p1 l1 M1 d1 => fin hp p1 l1 M1 d1
  · cases e
/-! ### f-strings -/
def tF (g : G) (cl : ClF) (ih : Ih) (bk : Bool) (sc : Scope) (e : Expr) : TE := match e with
  | .Constant (.str s) _ _ => tC (.str s)
  | .FormattedValue v c none _ => fun σ H Q => c = -1 ∧ tFmt (tE g cl (ih.e bk sc v)) σ H Q
  | _ => fun _ _ _ => False
theorem pj_all (Ie : IhE g X bk sc cl ih) : ∀ es : List Expr, PJ X es (es.map (tF g cl ih bk sc))
  | [] => .nil
  | e :: r => by
    refine .cons ?_ (pj_all Ie r)
    unfold tF
    split
    · exact pe_str
    · rename_i v c p
      refine ⟨fun pins s σ H Q I h => ?_⟩
      obtain ⟨rfl, h⟩ := h
      exact (pe_fmt (Ie.e v)).run pins s σ H Q I h
    · exact never_e
theorem i62_log {i : Int} (h : i62 i = true) : i.natAbs.log2 < 1920 := by
  have h : i.natAbs < 4611686018427387904 := Nat.lt_of_succ_le (Nat.le_of_ble_eq_true h)
  have : i.natAbs.log2 < 62 ∨ i.natAbs = 0 := by
    by_cases h0 : i.natAbs = 0
    · exact .inr h0
    · exact .inl ((Nat.log2_lt h0).mpr h)
  rcases this with h | h
  · omega
  · rw [h]
    decide
theorem rd_f : ∀ {es : List Expr} {σd : Env1} {σ : L2.St} {S S1 : Sto} {str acc : Str} {ρ : List Addr} {H : Hp} {Q : Str → Hp → Prop}, Sim g (cl σd σ) ρ S H σd σ → evF ih bk sc es σd S = some (str, S1) → (acc ++ str).length ≤ sizeLine →
    (∀ ρ' H', Pre ρ ρ' → Le H H' → Sim g (cl σd σ) ρ' S1 H' σd σ → Q (acc ++ str) H') → tJs (es.map (tF g cl ih bk sc)) acc σ H Q
  | [], σd, σ, S, S1, str, acc, ρ, H, Q, M, e, hz, q => by
    cases e
    have := q ρ H (Pre.refl _) (Le.refl _) M
    rw [Str.append_empty] at this
    exact this
  | e0 :: r, σd, σ, S, S1, str, acc, ρ, H, Q, M, e, hz, q => by
    unfold evF at e
    split at e
    · rename_i z _ _
      obtain ⟨t, Sa, e1, e⟩ := bnd_some e
      cases e
      rw [← Str.append_assoc] at hz q
      have hz1 : (acc ++ z).length ≤ sizeLine := by
        rw [Str.length_append] at hz
        omega
      exact ⟨z, rfl, hz1, rd_f (es := r) M e1 hz q⟩
    · rename_i v c _
      split at e
      · rename_i hc
        obtain ⟨d, Sa, e1, e⟩ := bnd_some e
        obtain ⟨y, e2, e⟩ := opt_some e
        obtain ⟨t, Sb, e3, e⟩ := bnd_some e
        cases e
        rw [← Str.append_assoc] at hz q
        have hz1 : (acc ++ y).length ≤ sizeLine := by
          rw [Str.length_append] at hz
          omega
        have hz2 : y.length ≤ sizeLine := by
          rw [Str.length_append] at hz1
          omega
        refine ⟨of_decide_eq_true hc, ρ, σd, S, d, Sa, M, e1, fun ρ1 H1 w p1 l1 M1 d1 => ?_⟩
        have rest : tJs (r.map (tF g cl ih bk sc)) (acc ++ y) σ H1 Q := rd_f (es := r) M1 e3 hz fun ρ' H' p l M' => q ρ' H' (p1.trans p) (l1.trans l) M'
        cases d with
        | str s0 =>
          cases e2
          exact .inl ⟨_, d1, hz2, _, rfl, hz1, rest⟩
        | int i =>
          obtain ⟨e4, e5⟩ := grd_some e2
          cases e5
          exact .inr ⟨i, d1, i62_log e4, _, rfl, hz1, rest⟩
        | _ => cases e2
      · cases e
    · cases e
theorem e_fstr (Ie : IhE g X bk sc cl ih) {vs : List Expr} {pos : Pos} : PE X (.JoinedStr vs pos) (tE g cl fun σ S => match vs with
    | _ :: _ :: _ => bnd (evF ih bk sc vs σ S) fun l S1 => grd (okStr l) (some (.str l, S1))
    | _ => none) := by
  match vs with
  | [] => exact PE.imp never_e fun σ H Q q => tE_none (fun _ _ => rfl) q
  | [_] => exact PE.imp never_e fun σ H Q q => tE_none (fun _ _ => rfl) q
  | a :: b :: r =>
    refine PE.imp (pe_joined (pj_all Ie (a :: b :: r))) fun σ H Q h => ?_
    obtain ⟨ρ, σd, S, d, S1, M, e, q⟩ := h
    obtain ⟨l, Sa, e1, e⟩ := bnd_some e
    obtain ⟨e2, e⟩ := grd_some e
    cases e
    have e2 : l.cps.size < 16000000 := Nat.lt_of_succ_le (Nat.le_of_ble_eq_true e2)
    refine rd_f (acc := Str.empty) M e1 ?_ fun ρ' H' p l1 M' => ?_
    · rw [Str.empty_append]
      exact line16 e2
    · rw [Str.empty_append]
      exact q ρ' H' _ p l1 M' rfl
/-! ### xs[a::n] -/
theorem pick_vals {xs : List V} {us : List Value} (r : Vals xs us) : ∀ is : List Nat, Vals (pickL xs is) (is.filterMap (us[·]?))
  | [] => .nil
  | i :: is => by
    unfold pickL
    rw [nth_eq]
    cases h : xs[i]? with
    | none =>
      have hu : us[i]? = none := by
        rw [List.getElem?_eq_none_iff] at h ⊢
        rw [← r.length]
        exact h
      rw [List.filterMap_cons_none hu]
      exact pick_vals r is
    | some x =>
      obtain ⟨u, hu, rx⟩ := r.get h
      rw [List.filterMap_cons_some hu]
      exact .cons rx (pick_vals r is)
theorem pick_dv {ρ : List Addr} {H : Hp} {c : Cl} {ds : List D} {xs : List V} (h : DVs g ρ H c ds xs) : ∀ is : List Nat, DVs g ρ H c (pickL ds is) (pickL xs is)
  | [] => rfl
  | i :: is => by
    unfold pickL
    rw [nth_eq, nth_eq]
    cases hd : ds[i]? with
    | none =>
      have hx : xs[i]? = none := by
        rw [List.getElem?_eq_none_iff] at hd ⊢
        rw [← h.length]
        exact hd
      rw [hx]
      exact pick_dv h is
    | some d =>
      obtain ⟨x, hx, dx⟩ := h.get hd
      rw [hx]
      exact .cons dx (pick_dv h is)
theorem e_step (Ie : IhE g X bk sc cl ih) {a st : Expr} {lo hi : Option Expr} {pS pos : Pos} : PE X (.Subscript a (.Slice lo hi (some st) pS) pos) (tE g cl fun σ S => bnd (ih.e bk sc a σ S) fun x S1 =>
    bnd (evO ih bk sc lo σ S1) fun i S2 => bnd (evO ih bk sc hi σ S2) fun j S3 => bnd (evO ih bk sc (some st) σ S3) fun k S4 => opt (asL S4 x) fun ds => match k with
      | some (.ofNat (c + 1)) => newL S4 (pickL ds (stepIx ds.length i j (some (.ofNat (c + 1)))))
      | _ => none) := by
  refine ⟨fun pins s σ H Q I h => ?_⟩
  obtain ⟨ρ, σd, S, d, S1, M, e, q⟩ := h
  obtain ⟨x, Sa, e1, e⟩ := bnd_some e
  obtain ⟨i, Sb, e2, e⟩ := bnd_some e
  obtain ⟨j, Sc, e3, e⟩ := bnd_some e
  obtain ⟨kk, Sd, e4, e⟩ := bnd_some e
  obtain ⟨ds, e5, e⟩ := opt_some e
  split at e
  · rename_i c _
    obtain ⟨e6, e⟩ := grd_some e
    cases e
    refine Subscript_ (thn (run_e Ie I M e1) fun v s1 ⟨xv, H1, ρ1, I1, r1, p1, l1, M1, d1⟩ => ?_)
    refine wpAny_Slice (thn ((o_part Ie lo).run pins s1 σ H1 (fun o H2 => o = i ∧ ∃ ρ2, Pre ρ1 ρ2 ∧ Le H1 H2 ∧ Sim g (cl σd σ) ρ2 Sb H2 σd σ) I1 ⟨ρ1, σd, Sa, i, Sb, M1, e2, fun ρ' H' p l M' => ⟨rfl, ρ', p, l, M'⟩⟩) fun vl s2 ⟨o, H2, I2, pl, eo, ρ2, p2, l2, M2⟩ => ?_)
    rw [eo] at pl
    refine thn ((o_part Ie hi).run pins s2 σ H2 (fun o H3 => o = j ∧ ∃ ρ3, Pre ρ2 ρ3 ∧ Le H2 H3 ∧ Sim g (cl σd σ) ρ3 Sc H3 σd σ) I2 ⟨ρ2, σd, Sb, j, Sc, M2, e3, fun ρ' H' p l M' => ⟨rfl, ρ', p, l, M'⟩⟩) fun vu s3 ⟨o, H3, I3, pu, eo, ρ3, p3, l3, M3⟩ => ?_
    rw [eo] at pu
    refine thn ((o_part Ie (some st)).run pins s3 σ H3 (fun o H4 => o = some (.ofNat (c + 1)) ∧ ∃ ρ4, Pre ρ3 ρ4 ∧ Le H3 H4 ∧ Sim g (cl σd σ) ρ4 Sd H4 σd σ) I3 ⟨ρ3, σd, Sc, _, Sd, M3, e4, fun ρ' H' p l M' => ⟨rfl, ρ', p, l, M'⟩⟩) fun vs s4 ⟨o, H4, I4, ps, eo, ρ4, p4, l4, M4⟩ => ?_
    subst eo
    have I5 : Inv X pins σ H4 { s4 with heap := s4.heap.push { cls := .type "slice", data := .fields #[vl, vu, vs] } } := I4.kept (t' := s4.toks) fun b ob q => Heap.get?_push_of_some _ q
    have pt := (p2.trans p3).trans p4
    have lt := (l2.trans l3).trans l4
    obtain ⟨n, a', xs, rfl, h1, rfl, h2, h3⟩ := M4.lst (d1.mono pt lt fun _ _ z => z) e5
    cases r1
    obtain ⟨its, r, ht, hz⟩ := I5.list (SqL.of h2)
    have hlen := r.length
    have hn : H4 (s4.heap.push { cls := .type "slice", data := .fields #[vl, vu, vs] }).objs.size = none := I5.hok.fresh (Nat.le_refl _)
    show wpAny (model X.prog X.w) X.A (subscriptTail a (.Slice lo hi (some st) pS) (.ref a') (.ref s4.heap.objs.size)) (EP X pins σ Q) X.xe { s4 with heap := s4.heap.push { cls := .type "slice", data := .fields #[vl, vu, vs] } }
    refine tail_any (ops := [.ref a', .ref s4.heap.objs.size]) ht.isList.typeIs (PySem.slot_list_getitem.lookup) ?_ (by with_unfolding_all rfl)
    refine wpAny_getItem_list_slice ht.isList (Heap.IsSliceOf.new _ vl vu vs) pl pu ps (fun z => by cases z) ?_ (by rw [List.size_toArray]; omega)
    have hsz : its.toArray.size = ds.length := by
      rw [List.size_toArray, ← hlen, h3.length]
    unfold slicePick
    rw [hsz]
    have dv := pick_dv h3 (stepIx ds.length i j (some (.ofNat (c + 1))))
    have rv := pick_vals r (stepIx ds.length i j (some (.ofNat (c + 1))))
    have ea : (stepIx ds.length i j (some (.ofNat (c + 1)))).filterMap (its.toArray[·]?) = (stepIx ds.length i j (some (.ofNat (c + 1)))).filterMap (its[·]?) := by
      congr 1
      funext m
      simp
    rw [← ea] at rv
    have F : Fin g (cl σd σ) ρ4 H4 σd σ (.loc Sd.length) (Sd ++ [.lst (pickL ds (stepIx ds.length i j (some (.ofNat (c + 1)))))]) Q := ⟨fun ρ' H' v p l M' d' => q ρ' H' v ((p1.trans pt).trans p) ((l1.trans lt).trans l) M' d'⟩
    refine ⟨.ref _, _, I5.laid (t' := s4.toks) (o := .lst (pickL xs (stepIx ds.length i j (some (.ofNat (c + 1)))))) (fun b ob q => Heap.get?_push_of_some _ q) (Nat.le_refl _) ?_, rfl, F.lst M4 dv hn⟩
    exact ⟨by rw [← dv.length]; exact line16 (small_le e6), _, 0, rv, Heap.get?_push_size _ rfl⟩
  · cases e
end
end K76
end

/-! text Lmk -/
section
namespace K76
open PySem PySem.Spec PyProof.Rows L2
section
variable {g : G} {C : Cx1} {X : Cx} {bk : Bool} {sc : Scope} {cl : ClF} {k : Nat} {pins : List (Addr × Obj)} {σ : L2.St} {H : Hp} {s : Shared} {ρ : List Addr} {S : Sto} {σd : Env1}
theorem OR.notbl {ρ : List Addr} {H : Hp} {c : Cl} {a : Addr} {ps : Array Value} : ∀ {o : OD}, OR g ρ H c o a → H a ≠ Option.some (HO.tbl ps)
  | .lst _, ⟨_, h, _⟩ => fun z => by rw [z] at h; cases h
  | .dct _, .inl ⟨_, _, h, _⟩ => fun z => by rw [z] at h; cases h
  | .dct _, .inr ⟨_, _, _, _, _, h, _⟩ => fun z => by rw [z] at h; cases h
  | .set _, ⟨_, _, _, _, h⟩ => fun z => by have h := h.at_; rw [z] at h; cases h
  | .ins _ _, ⟨_, _, _, _, h, _⟩ => fun z => by rw [z] at h; cases h
  | .dead, ⟨_, _, _, _, h, _⟩ => fun z => by rw [z] at h; cases h
theorem caps_vals {c : Cl} (M : EnvR g c ρ H σd σ) : ∀ {l : List Str} {caps : List D}, capsOf C σd l = some caps → ∃ vs, DVs g ρ H c caps vs ∧ ∀ (i : Nat) (x : Str), l[i]? = some x → ∃ j d v, hasS x C.caps = true ∧ findIx x C.N 0 = some j ∧ σd[j]? = some (some d) ∧ σ[j]? = some (some v) ∧ vs[i]? = some v
  | [], caps, e => by
    cases e
    exact ⟨[], rfl, fun i x h => by simp at h⟩
  | x :: r, caps, e => by
    obtain ⟨h1, e⟩ := grd_some (show grd (hasS x C.caps) (opt (getVar C.N x σd) fun d => opt (capsOf C σd r) fun q => some (d :: q)) = some caps from e)
    obtain ⟨d, e1, e⟩ := opt_some e
    obtain ⟨q, e2, e⟩ := opt_some e
    cases e
    obtain ⟨vs, i1, i2⟩ := caps_vals M e2
    obtain ⟨j, e3, e4⟩ := opt_some (show opt (findIx x C.N 0) (fun i => match nth σd i with | some (some d) => some d | _ => none) = some d from e1)
    rw [nth_eq] at e4
    split at e4
    · rename_i d2 e5
      cases e4
      obtain ⟨v, e6, e7⟩ := M.at_ j d e5
      refine ⟨v :: vs, .cons e7 i1, fun i y h => ?_⟩
      cases i with
      | zero =>
        simp at h
        subst h
        exact ⟨j, d, v, h1, e3, e5, e6, rfl⟩
      | succ i =>
        obtain ⟨j', d', v', a1, a2, a3, a4, a5⟩ := i2 i y (by simpa using h)
        exact ⟨j', d', v', a1, a2, a3, a4, by simpa using a5⟩
    · cases e4
theorem free_mem {sc : Scope} {x : Str} : x ∈ freeOf sc ↔ (x, NameKind.free) ∈ sc.names := by
  unfold freeOf
  rw [List.mem_map]
  constructor
  · rintro ⟨⟨y, k⟩, h, rfl⟩
    obtain ⟨h1, h2⟩ := List.mem_filter.mp h
    cases k <;> first | exact h1 | cases h2
  · intro h
    exact ⟨(x, .free), List.mem_filter.mpr ⟨h, rfl⟩, rfl⟩
theorem plainA_eq {a : Arguments} (h : plainA a = true) : ∃ names d b, a = ⟨[], names, none, [], d, none, b⟩ ∧ d = [] := by
  unfold plainA at h
  split at h
  · exact ⟨_, _, _, rfl, rfl⟩
  · cases h
/-- a lambda is made -/
theorem e_lambda (Gd : Good g C X bk sc cl k) {ps : Arguments} {b : Expr} {sl : Scope} {pos : Pos} : PE X (.Lambda ps b sl pos) (tE g cl fun σ S => grd (C.lam && (!bk && !C.caps.isEmpty) && lamMk sc ps sl) (opt (capsOf C σ (freeOf sl)) fun caps => some (.lam ⟨ps, b, sl, C.qual⟩ caps, S))) := by
  refine ⟨fun pins s σ H Q I h => ?_⟩
  obtain ⟨ρ, σd, S, d, S1, M, e, q⟩ := h
  obtain ⟨e0, e⟩ := grd_some e
  obtain ⟨caps, e1, e⟩ := opt_some e
  cases e
  obtain ⟨e0, e2⟩ := Bool.and_eq_true_iff.mp e0
  obtain ⟨e3, e4⟩ := Bool.and_eq_true_iff.mp e0
  obtain ⟨e4, e5⟩ := Bool.and_eq_true_iff.mp e4
  have e4 : bk = false := by simpa using e4
  have e5 : C.caps.isEmpty = false := by simpa using e5
  have Lm := Gd.lmk e4 e3 e5
  obtain ⟨c, P, TB, hcode, hm, hu⟩ := Lm.tb
  obtain ⟨e6, e7⟩ := Bool.and_eq_true_iff.mp (show (plainA ps && ps.defaults.isEmpty && sl.names.all fun y => match y.2 with
    | .free => match look y.1 sc.names with
      | some .cell => true
      | _ => false
    | _ => true) = true from e2)
  obtain ⟨e6, e8⟩ := Bool.and_eq_true_iff.mp e6
  have hdef : defaultsOf ps X.env = ([], []) := by
    obtain ⟨names, d, bb, rfl, rfl⟩ := plainA_eq e6
    have : bb = [] := by simpa using e8
    subst this
    rfl
  have hfree : ∀ y ∈ sl.names, y.2 = .free → ∃ c, X.env.cells.lookup y.1 = some c := fun y hy hk => by
    have := List.all_eq_true.mp e7 y hy
    rw [hk] at this
    have this : (match look y.1 sc.names with | some .cell => true | _ => false) = true := this
    rw [look_eq] at this
    split at this
    · rename_i hl
      exact I.ok.has _ (Gd.scr.cf _ (.inl hl))
    · cases this
  have cm : ∀ {y : Str} {c : Addr}, (cloFrom X.env.cells sl.names []).lookup y = some c → X.env.cells.lookup y = some c ∧ y ∈ freeOf sl := fun {y c} e => by
    rcases cloFrom_mem (PySem.mem_of_lookup e) with hm | ⟨h1, h2⟩
    · cases hm
    · obtain ⟨c1, hc⟩ := hfree _ h1 rfl
      have hc : X.env.cells.lookup y = some c1 := hc
      have e2 : c = c1 := by
        rw [h2, hc] <;> rfl
      rw [e2]
      exact ⟨hc, free_mem.mpr h1⟩
  obtain ⟨vs, hvs, hcv⟩ := caps_vals M.env e1
  have hq := Lm.qual
  obtain ⟨ps0, hP, ht, ha⟩ := M.rel.tab _ hm
  -- what is to be shown behind
  have close : ∀ (H1 : Hp) (s' : Shared) (f c' : Addr) (oc : Obj) (uc : HO) (pm ctv : Value), Inv X pins σ H1 s' → Le H H1 → (∀ a, H a ≠ none → H a ≠ some (.tbl ps0) → H1 a = H a) → (∀ p ∈ g.T, TabF H1 p.1 p.2) →
      H1 f = some (.frz (PySem.W.kla_obj "<lambda>" (C.qual ++ "<lambda>") ps b sl (cloFrom X.env.cells sl.names []) pm c' ctv) (.own 0)) → H1 c' = some (.frz oc uc) → CodeNamed oc (C.qual ++ "<lambda>") → EP X pins σ Q (.ref f) s' := by
    intro H1 s' f c' oc uc pm ctv J l keep tabs hf hc' hcn
    have R1 : Rel g (cl σd σ) ρ S H1 := ⟨M.rel.len, M.rel.nd, fun n o a e1 e2 => by
      have h := M.rel.sto n o a e1 e2
      obtain ⟨u, hu⟩ := h.some
      exact h.mono (Pre.refl _) l (fun _ _ z => z) (keep a (by rw [hu]; exact fun z => by cases z) h.notbl), tabs⟩
    refine ⟨.ref f, H1, J, rfl, q ρ H1 _ (Pre.refl _) l ⟨R1, M.env.mono (Pre.refl _) l fun _ _ z => z⟩ ⟨f, vs, rfl, ⟨⟨_, _, c', oc, pm, ctv, uc, hf, rfl, hc', hcn, fun x y c h1 h2 => I.ok.inj x y c (cm h1).1 (cm h2).1, fun x c h => (cm h).2, fun i x hx => ?_⟩⟩, hvs.mono (Pre.refl _) l fun _ _ z => z⟩⟩
    have hxf : (x, NameKind.free) ∈ sl.names := free_mem.mp (List.mem_of_getElem? hx)
    obtain ⟨c1, hc1⟩ := mem_lookup (cloFrom_has (cells := X.env.cells) (acc := []) hxf)
    obtain ⟨j, d, v, b1, b2, b3, b4, b5⟩ := hcv i x hx
    refine ⟨c1, v, hc1, b5, .inl ?_⟩
    rw [Lm.cl]
    exact .inr ⟨x, j, d, hasS_iff.mp b1, (cm hc1).1, by rw [Gd.N]; exact findIx_0 b2, b3, b4⟩
  refine PySem.W.kla_eval hdef ?_
  rw [hq]
  have bP : s.heap.BuiltinsAt X.mg P := TB.bm.keeps I.bk
  have hP' : s.heap.get? P = some { cls := .none, data := .fields ps0 } := I.hok P _ hP
  cases hc : codeAmong pos ps0.toList with
  | none =>
    refine PySem.W.kla_makeFunction (mg := X.mg) (c := c) (P := P) (ps := ps0) (closure_ok hfree) I.ok.glob (I.mod.glob.keeps I.bk) hcode (TB.code.keeps I.bk) hP' ht hc TB.gP bP fun c' ctv h' tk hx hge hlt hrec htb => ?_
    obtain ⟨c2, oc, vs', t, e2, hoc, hd, hv⟩ := hrec
    cases e2
    have hsz : s.heap.objs.size ≤ h'.objs.size := Nat.le_trans hge (Nat.le_of_lt hlt)
    have nC : H c' = none := I.hok.fresh hge
    have I1 := LamX.inv_table (t' := tk) (more := #[rawInt pos.line, rawInt pos.col, .ref c']) (h' := h') I hP hx htb hge ⟨oc, vs', t, hoc, hd, hv⟩
    obtain ⟨od, I2⟩ := Inv.lock I1 (d := c') upd_same trivial
    have hod : od = oc := by
      have h1 : h'.get? c' = some od := (I2.hok c' _ upd_same).1
      rw [hoc] at h1
      exact (Option.some.inj h1).symm
    subst hod
    have nf1 : h'.objs.size ≠ c' := Nat.ne_of_gt hlt
    have nf2 : h'.objs.size ≠ P := Nat.ne_of_gt (Nat.lt_of_lt_of_le (Heap.lt_size hP') hsz)
    have fr0 : H h'.objs.size = none := I.hok.fresh hsz
    have I3 := I2.laid (a := h'.objs.size) (o := .frz (PySem.W.kla_obj "<lambda>" (C.qual ++ "<lambda>") ps b sl (cloFrom X.env.cells sl.names []) ((X.mg "__name__").getD .none) c' ctv) (.own 0))
      (h' := h'.push (PySem.W.kla_obj "<lambda>" (C.qual ++ "<lambda>") ps b sl (cloFrom X.env.cells sl.names []) ((X.mg "__name__").getD .none) c' ctv)) (t' := tk) (fun _ _ q => Heap.get?_push_of_some _ q) (Nat.le_refl _) ⟨Heap.get?_push_size _ rfl, _, Heap.get?_push_size _ rfl⟩
    generalize hH2 : upd (upd (upd H P (.tbl (ps0 ++ #[rawInt pos.line, rawInt pos.col, .ref c']))) c' (LamX.CodeO c' (C.qual ++ "<lambda>"))) c' (.frz od (LamX.CodeO c' (C.qual ++ "<lambda>"))) = H2 at I2 I3
    have at_ : ∀ a, a ≠ P → a ≠ c' → H2 a = H a := fun a h1 h2 => by rw [← hH2, upd_ne h2, upd_ne h2, upd_ne h1]
    have atC : H2 c' = some (.frz od (LamX.CodeO c' (C.qual ++ "<lambda>"))) := by rw [← hH2, upd_same]
    have nPc : P ≠ c' := ne_of_none hP nC
    have atP : H2 P = some (.tbl (ps0 ++ #[rawInt pos.line, rawInt pos.col, .ref c'])) := by rw [← hH2, upd_ne nPc, upd_ne nPc, upd_same]
    have keep : ∀ a u, H a = some u → (∀ ps, u ≠ .tbl ps) → upd H2 h'.objs.size (.frz (PySem.W.kla_obj "<lambda>" (C.qual ++ "<lambda>") ps b sl (cloFrom X.env.cells sl.names []) ((X.mg "__name__").getD .none) c' ctv) (.own 0)) a = some u := fun a u e n => by
      rw [upd_ne (ne_of_none e fr0), at_ a (fun z => by rw [z, hP] at e; cases e; exact n _ rfl) (ne_of_none e nC)]
      exact e
    have hcn : CodeNamed od (C.qual ++ "<lambda>") := ⟨vs', t, hd, hv⟩
    refine close _ _ h'.objs.size c' od _ _ ctv I3 ⟨fun a xs e => keep a _ e (fun _ z => by cases z), fun a o u e => keep a _ e (fun _ z => by cases z)⟩ (fun a h1 h2 => ?_) (fun p hp => ?_) upd_same (by rw [upd_ne (Ne.symm nf1)]; exact atC) hcn
    · cases hu : H a with
      | none => exact absurd hu h1
      | some u =>
        refine (upd_ne (ne_of_none hu fr0)).trans ?_
        rw [at_ a (fun z => h2 (by rw [z]; exact hP)) (ne_of_none hu nC)]
        exact hu
    · by_cases hb : p.1 = P
      · rw [hu p hp hb, hb]
        have eL : (ps0 ++ #[rawInt pos.line, rawInt pos.col, .ref c']).toList = ps0.toList ++ [rawInt pos.line, rawInt pos.col, .ref c'] := by simp
        refine ⟨_, by rw [upd_ne (Ne.symm nf2)]; exact atP, by rw [eL]; exact PySem.TriplesOk_snoc _ _ _ _ ht, fun p' cv hcv => ?_⟩
        rw [eL] at hcv
        rcases LamX.among_app _ ht hcv with z | z
        · obtain ⟨c0, oc0, uc0, a1, a2, a3⟩ := ha p' cv z
          exact ⟨c0, oc0, uc0, a1, keep _ _ a2 (fun _ z => by cases z), a3⟩
        · exact ⟨c', od, _, z, by rw [upd_ne (Ne.symm nf1)]; exact atC, hcn⟩
      · obtain ⟨ps', a1, a2, a3⟩ := M.rel.tab p hp
        refine ⟨ps', by rw [upd_ne (ne_of_none a1 fr0), at_ _ hb (ne_of_none a1 nC)]; exact a1, a2, fun p' cv hcv => ?_⟩
        obtain ⟨c0, oc0, uc0, b1, b2, b3⟩ := a3 p' cv hcv
        exact ⟨c0, oc0, uc0, b1, keep _ _ b2 (fun _ z => by cases z), b3⟩
  | some cv =>
    obtain ⟨c', oc, uc, e9, hco, hcn⟩ := ha pos cv hc
    subst e9
    refine PySem.W.kla_makeFunctionHit (mg := X.mg) (c := c) (P := P) (ps := ps0) (closure_ok hfree) I.ok.glob (I.mod.glob.keeps I.bk) hcode (TB.code.keeps I.bk) hP' ht hc bP fun ctv h' tk hx hsz => ?_
    have fr0 : H h'.objs.size = none := I.hok.fresh hsz
    have I3 : Inv X pins σ (upd H h'.objs.size (.frz (PySem.W.kla_obj "<lambda>" (C.qual ++ "<lambda>") ps b sl (cloFrom X.env.cells sl.names []) ((X.mg "__name__").getD .none) c' ctv) (.own 0))) { s with heap := h'.push (PySem.W.kla_obj "<lambda>" (C.qual ++ "<lambda>") ps b sl (cloFrom X.env.cells sl.names []) ((X.mg "__name__").getD .none) c' ctv), toks := tk } :=
      I.laid (t' := tk) (fun _ _ q => Heap.get?_push_of_some _ (hx _ _ q)) hsz ⟨Heap.get?_push_size _ rfl, _, Heap.get?_push_size _ rfl⟩
    refine close _ _ h'.objs.size c' oc uc _ ctv I3 (le_new fr0) (fun a h1 h2 => ?_) (fun p hp => (M.rel.tab.step (le_new fr0) (tbl_new fr0)) p hp) upd_same (by rw [upd_ne (ne_of_none hco fr0)]; exact hco) hcn
    cases hu : H a with
    | none => exact absurd hu h1
    | some u => exact (upd_ne (ne_of_none hu fr0)).trans hu
end
end K76
end

/-! text Run -/
section
namespace K76
open PySem PySem.Spec PyProof.Rows L2
section
variable {g : G} {C : Cx1} {X : Cx} {bk : Bool} {sc : Scope} {cl : ClF} {k j : Nat} {ih : Ih}
/-- sets, told elsewhere -/
structure SetsOk (g : G) (C : Cx1) (k : Nat) : Prop where
  set : ∀ (X : Cx) (bk : Bool) (sc : Scope) (cl : ClF), Good g C X bk sc cl k → CallR X (.type "set") (rCB g (on1 (bTy1 "set")))
  comp : ∀ (X : Cx) (bk : Bool) (sc0 : Scope) (cl : ClF) (ih : Ih), Good g C X bk sc0 cl k → Facts g C.P → IhNo ih → IhAll g C k ih → ∀ (el : Expr) (gs : List Comprehension) (sc : Scope) (pos : Pos), PE X (.SetComp el gs sc pos) (tE g cl (stepE C ih bk sc0 (.SetComp el gs sc pos)))
structure BaseOk (g : G) (C : Cx1) (k j : Nat) : Prop where
  F : Facts g C.P
  Fc : FactsC g C.P
  Ck : CallOk g C.P j C.call
  hk : 2 * j + 1 ≤ k
  so : SetsOk g C k
theorem nv {e : Expr} {f : EvT} (h : ∀ σ S, f σ S = none) : PE X e (tE g cl f) := PE.imp never_e fun σ H Q q => tE_none h q
theorem tT_none {f : Env1 → Sto → Option (Bool × Sto)} (h : ∀ σ S, f σ S = none) {σ : L2.St} {H : Hp} {Q : Bool → Hp → Prop} (q : tT g cl f σ H Q) : False := by
  obtain ⟨ρ, σd, S, d, S1, M, e, _⟩ := q
  rw [h] at e
  cases e
/-- an expression at the next level -/
theorem step_e (B : BaseOk g C k j) (Gd : Good g C X bk sc cl k) (no : IhNo ih) (A : IhAll g C k ih) (e : Expr) : PE X e (tE g cl (stepE C ih bk sc e)) := by
  have I := A.e X bk sc cl Gd
  cases e with
  | Name x p => exact e_name B.F Gd
  | Constant c i p => exact e_const
  | Tuple es i p => exact e_tuple I (no.star bk sc)
  | List es p => exact e_list I (no.star bk sc)
  | Dict ks vs p => exact e_dict I
  | BinOp l op r p => exact e_bin I Gd.K
  | UnaryOp op a p =>
    cases op with
    | Not => exact (e_not I).1
    | USub => exact e_neg I
    | _ => exact nv fun _ _ => rfl
  | BoolOp op vs p =>
    cases op with
    | And => exact (e_bool I (pos := p) true vs).1
    | Or => exact (e_bool I (pos := p) false vs).1
  | Compare l ops cs p =>
    match ops, cs with
    | [op], [r] => exact (cmp_one I Gd.P Gd.w Gd.K Gd.room (no.set bk sc)).1
    | [op, op'], [r, r'] => exact (cmp_two I Gd.P Gd.w Gd.K Gd.room).1
    | [], _ => exact nv fun _ _ => rfl
    | [_], [] => exact nv fun _ _ => rfl
    | [_], _ :: _ :: _ => exact nv fun _ _ => rfl
    | [_, _], [] => exact nv fun _ _ => rfl
    | [_, _], [_] => exact nv fun _ _ => rfl
    | [_, _], _ :: _ :: _ :: _ => exact nv fun _ _ => rfl
    | _ :: _ :: _ :: _, _ => exact nv fun _ _ => rfl
  | IfExp t a b p => exact e_if I
  | Subscript a s p =>
    by_cases hs : ∃ lo hi st q, s = .Slice lo hi st q
    · obtain ⟨lo, hi, st, q, rfl⟩ := hs
      cases st with
      | none => exact e_slice I Gd.K
      | some st => exact e_step I
    · have : stepE C ih bk sc (.Subscript a s p) = fun σ S => bnd (ih.e bk sc a σ S) fun x S1 => bnd (ih.e bk sc s σ S1) fun y S2 => opt (ixD S2 x y) fun d => some (d, S2) := by
        cases s <;> first | rfl | exact absurd ⟨_, _, _, _, rfl⟩ hs
      rw [this]
      exact e_index I Gd.P Gd.w Gd.K Gd.room fun lo hi st q z => hs ⟨lo, hi, st, q, z⟩
  | Attribute o f p => exact e_attr B.F I Gd.K
  | Call f as ks p => exact e_call ⟨Gd, B.hk, B.Ck, B.F, B.Fc, no.star bk sc, I, B.so.set X bk sc cl Gd⟩
  | Lambda ps b s p => exact e_lambda Gd
  | ListComp el gs s p => exact e_lc Gd B.F no A
  | SetComp el gs s p => exact B.so.comp X bk sc cl ih Gd B.F no A el gs s p
  | DictComp kx vx gs s p =>
    by_cases h1 : ∃ g0, gs = [g0]
    · obtain ⟨g0, rfl⟩ := h1
      exact e_dc Gd B.F no A fun _ _ _ _ _ _ z => by cases z
    · refine nv fun σ S => ?_
      show (match gs with
        | [_] => evLc C ih bk sc s gs (.dct []) (lcPair ih s kx vx) σ S
        | _ => none) = none
      split
      · exact absurd ⟨_, rfl⟩ h1
      · rfl
  | JoinedStr vs p => exact e_fstr I
  | _ => exact nv fun _ _ => rfl
theorem pt_ifE (I : IhE g X bk sc cl ih) {t a b : Expr} {pos : Pos} : PT X (.IfExp t a b pos) (tT g cl fun σ S => bnd (bnd (tst ih bk sc t σ S) fun k S1 => match k with
    | true => ih.e bk sc a σ S1
    | false => ih.e bk sc b σ S1) fun d S1 => opt (asB d) fun b => some (b, S1)) := by
  refine ⟨fun pins s σ H Q J h => ?_⟩
  obtain ⟨ρ, σd, S, r, S1, M, e, q⟩ := h
  obtain ⟨d, Sb, e, e'⟩ := bnd_some e
  obtain ⟨c, Sa, e1, e⟩ := bnd_some e
  obtain ⟨r', e2, e'⟩ := opt_some e'
  cases e'
  show wpAny _ _ (do if ← isTrue t X.env (eval t X.env) then isTrue a X.env (eval a X.env) else isTrue b X.env (eval b X.env)) _ _ s
  refine wpAny_bind (thn ((I.t t).run pins s σ H (fun c' H1 => c' = c ∧ ∃ ρ1, Pre ρ ρ1 ∧ Le H H1 ∧ Sim g (cl σd σ) ρ1 Sa H1 σd σ) J ⟨ρ, σd, S, c, Sa, M, e1, fun ρ' H' p l M' => ⟨rfl, ρ', p, l, M'⟩⟩) fun c' s1 ⟨H1, J1, ec, ρ1, p1, l1, M1⟩ => ?_)
  subst ec
  cases c' with
  | true =>
    rw [if_pos rfl]
    refine (I.t a).run pins s1 σ H1 Q J1 ⟨ρ1, σd, Sa, r, S1, M1, ?_, fun ρ' H' p l M' => q ρ' H' (p1.trans p) (l1.trans l) M'⟩
    show bnd (ih.e bk sc a σd Sa) _ = _
    rw [show ih.e bk sc a σd Sa = some (d, S1) from e]
    show opt (asB d) _ = _
    rw [e2]
    rfl
  | false =>
    rw [if_neg Bool.false_ne_true]
    refine (I.t b).run pins s1 σ H1 Q J1 ⟨ρ1, σd, Sa, r, S1, M1, ?_, fun ρ' H' p l M' => q ρ' H' (p1.trans p) (l1.trans l) M'⟩
    show bnd (ih.e bk sc b σd Sa) _ = _
    rw [show ih.e bk sc b σd Sa = some (d, S1) from e]
    show opt (asB d) _ = _
    rw [e2]
    rfl
/-- .. as a test -/
theorem step_t (B : BaseOk g C k j) (Gd : Good g C X bk sc cl k) (no : IhNo ih) (A : IhAll g C k ih) (e : Expr) : PT X e (tT g cl fun σ S => bnd (stepE C ih bk sc e σ S) fun d S1 => opt (asB d) fun b => some (b, S1)) := by
  have I := A.e X bk sc cl Gd
  have h := step_e B Gd no A e
  cases e with
  | UnaryOp op a p =>
    cases op with
    | Not => exact (e_not I).2
    | _ => exact t_val h fun _ => rfl
  | BoolOp op vs p =>
    cases op with
    | And => exact (e_bool I (pos := p) true vs).2.pt
    | Or => exact (e_bool I (pos := p) false vs).2.pt
  | IfExp t a b p => exact pt_ifE I
  | Compare l ops cs p =>
    have red : ∀ (σ : L2.St) (H : Hp) (Q : Bool → Hp → Prop), tT g cl (fun σ S => bnd (stepE C ih bk sc (.Compare l ops cs p) σ S) fun d S1 => opt (asB d) fun b => some (b, S1)) σ H Q → tT g cl (evCmp ih bk sc l ops cs) σ H Q := fun σ H Q h => by
      obtain ⟨ρ, σd, S, r, S1, M, e, q⟩ := h
      obtain ⟨d, Sb, e, e'⟩ := bnd_some e
      obtain ⟨c, Sa, e1, e⟩ := bnd_some (show bnd (evCmp ih bk sc l ops cs σd S) (fun b S1 => some (D.bl b, S1)) = some (d, Sb) from e)
      cases e
      cases e'
      exact ⟨ρ, σd, S, r, _, M, e1, q⟩
    have none : (∀ σ S, evCmp ih bk sc l ops cs σ S = Option.none) → PT X (.Compare l ops cs p) (tT g cl fun σ S => bnd (stepE C ih bk sc (.Compare l ops cs p) σ S) fun d S1 => opt (asB d) fun b => some (b, S1)) := fun hn => PT.imp never_t fun σ H Q q => tT_none hn (red σ H Q q)
    match ops, cs, red, none with
    | [op], [r], red, _ => exact PT.imp (cmp_one I Gd.P Gd.w Gd.K Gd.room (no.set bk sc)).2 fun σ H Q q => red σ H Q q
    | [op, op'], [r, r'], red, _ => exact PT.imp (cmp_two I Gd.P Gd.w Gd.K Gd.room).2 fun σ H Q q => red σ H Q q
    | [], _, _, none => exact none fun _ _ => rfl
    | [_], [], _, none => exact none fun _ _ => rfl
    | [_], _ :: _ :: _, _, none => exact none fun _ _ => rfl
    | [_, _], [], _, none => exact none fun _ _ => rfl
    | [_, _], [_], _, none => exact none fun _ _ => rfl
    | [_, _], _ :: _ :: _ :: _, _, none => exact none fun _ _ => rfl
    | _ :: _ :: _ :: _, _, _, none => exact none fun _ _ => rfl
  | _ => exact t_val h fun _ => rfl
theorem run_all (B : BaseOk g C k j) : ∀ n, IhAll g C k (run C n) ∧ IhNo (run C n)
  | 0 => ⟨⟨fun X bk sc cl Gd => ⟨fun e => nv fun _ _ => rfl, fun e => PT.imp never_t fun σ H Q q => tT_none (fun _ _ => rfl) q⟩⟩, ⟨fun _ _ _ _ => rfl, fun _ _ _ _ _ => rfl⟩⟩
  | n + 1 => by
    obtain ⟨A, no⟩ := run_all B n
    exact ⟨⟨fun X bk sc cl Gd => ⟨fun e => step_e B Gd no A e, fun e => step_t B Gd no A e⟩⟩, ⟨fun _ _ _ _ => rfl, fun _ _ _ _ _ => rfl⟩⟩
/-- statements -/
theorem run_ss (B : BaseOk g C k j) (Gd : Good g C X false C.sc cl k) (hsc : X.env.scope = C.sc) (up : ClUp C C.sc cl) : ∀ (n : Nat) (l : List Stmt), PSs X l (tS g cl ((run C n).ss l))
  | 0, l => ⟨fun pins s σ H D I q => by
    obtain ⟨ρ, σd, S, o, σ1, S1, M, e, _⟩ := q
    cases e⟩
  | n + 1, l => by
    obtain ⟨A, no⟩ := run_all B n
    refine ss_all ⟨Gd, hsc, B.F, up, A.e X false C.sc cl Gd, no, ?_, run_ss B Gd hsc up n⟩ (fun bk sc a b c p => ?_) l
    · cases n with
      | zero => exact .inl fun _ _ _ _ _ => rfl
      | succ n =>
        obtain ⟨A0, no0⟩ := run_all B n
        exact .inr ⟨run C n, A0, no0, fun _ _ _ _ _ => rfl⟩
    · cases n <;> rfl
end
end K76
end

/-! text Cut -/
section
namespace K76
open PySem PySem.Spec PyProof.Rows L2
section
variable {g : G} {ρ r : List Addr} {H : Hp} {c : Cl}
/-! ### what no one names any more is dropped -/
mutual
theorem DV.trim : ∀ (d : D) {v : V}, maxLoc d ≤ ρ.length → DV g (ρ ++ r) H c d v → DV g ρ H c d v
  | .non, _, _, h => h
  | .bl _, _, _, h => h
  | .int _, _, _, h => h
  | .str _, _, _, h => h
  | .ty _, _, _, h => h
  | .glo _, _, _, h => h
  | .loc n, v, hm, ⟨a, h1, h2⟩ => ⟨a, by
    have hm : n + 1 ≤ ρ.length := hm
    rw [List.getElem?_append_left (by omega)] at h1
    exact h1, h2⟩
  | .tup ds, v, hm, ⟨a, vs, h1, h2, h3⟩ => ⟨a, vs, h1, h2, DVs.trim ds hm h3⟩
  | .lam l caps, v, hm, ⟨a, vs, h1, h2, h3⟩ => ⟨a, vs, h1, h2, DVs.trim caps hm h3⟩
theorem DVs.trim : ∀ (ds : List D) {vs : List V}, maxLocs ds ≤ ρ.length → DVs g (ρ ++ r) H c ds vs → DVs g ρ H c ds vs
  | [], _, _, h => h
  | d :: ds, _, hm, ⟨v, q, e, h1, h2⟩ => by
    have hm : max (maxLoc d) (maxLocs ds) ≤ ρ.length := hm
    exact ⟨v, q, e, DV.trim d (Nat.le_trans (Nat.le_max_left _ _) hm) h1, DVs.trim ds (Nat.le_trans (Nat.le_max_right _ _) hm) h2⟩
end
theorem FsR.cut : ∀ {fs : List (Str × D)} {vs : List (Str × V)}, maxLocs (fs.map (·.2)) ≤ ρ.length → FsR g (ρ ++ r) H c fs vs → FsR g ρ H c fs vs
  | [], _, _, h => h
  | p :: q, _, hm, ⟨v, t, e, h1, h2⟩ => by
    have hm : max (maxLoc p.2) (maxLocs (q.map (·.2))) ≤ ρ.length := hm
    exact ⟨v, t, e, DV.trim _ (Nat.le_trans (Nat.le_max_left _ _) hm) h1, FsR.cut (Nat.le_trans (Nat.le_max_right _ _) hm) h2⟩
theorem KvR.cut : ∀ {fs : List (D × D)} {vs : List (Key × V)}, maxLocs (fs.map (·.2)) ≤ ρ.length → KvR g (ρ ++ r) H c fs vs → KvR g ρ H c fs vs
  | [], _, _, h => h
  | p :: q, _, hm, ⟨k, v, t, e, ek, h1, h2⟩ => by
    have hm : max (maxLoc p.2) (maxLocs (q.map (·.2))) ≤ ρ.length := hm
    exact ⟨k, v, t, e, ek, DV.trim _ (Nat.le_trans (Nat.le_max_left _ _) hm) h1, KvR.cut (Nat.le_trans (Nat.le_max_right _ _) hm) h2⟩
theorem NvR.cut : ∀ {fs : List (D × D)} {xs : List (NestedKey × Addr × Value)}, maxLocs (fs.map (·.1)) ≤ ρ.length → maxLocs (fs.map (·.2)) ≤ ρ.length → NvR g (ρ ++ r) H c fs xs → NvR g ρ H c fs xs
  | [], _, _, _, h => h
  | p :: q, _, hm, hn, ⟨nk, ka, u, v, t, e, h0, h1, h2, h3, h4, h5, h6⟩ => by
    have hm : max (maxLoc p.1) (maxLocs (q.map (·.1))) ≤ ρ.length := hm
    have hn : max (maxLoc p.2) (maxLocs (q.map (·.2))) ≤ ρ.length := hn
    exact ⟨nk, ka, u, v, t, e, h0, h1, h2, DV.trim _ (Nat.le_trans (Nat.le_max_left _ _) hm) h3, h4, DV.trim _ (Nat.le_trans (Nat.le_max_left _ _) hn) h5, NvR.cut (Nat.le_trans (Nat.le_max_right _ _) hm) (Nat.le_trans (Nat.le_max_right _ _) hn) h6⟩
theorem OR.cut {a : Addr} : ∀ {o : OD}, maxO o ≤ ρ.length → OR g (ρ ++ r) H c o a → OR g ρ H c o a
  | .lst ds, hm, ⟨vs, h1, h2⟩ => ⟨vs, h1, DVs.trim ds hm h2⟩
  | .dct kvs, hm, .inl ⟨h0, ks, h1, hn, h2⟩ => .inl ⟨h0, ks, h1, hn, KvR.cut (Nat.le_trans (Nat.le_max_right _ _) hm) h2⟩
  | .dct kvs, hm, .inr ⟨h0, o, es, ep, xs, h1, h2, h3, h4, h5, h6, h7, h8⟩ => .inr ⟨h0, o, es, ep, xs, h1, h2, h3, h4, h5, h6, h7, NvR.cut (Nat.le_trans (Nat.le_max_left _ _) hm) (Nat.le_trans (Nat.le_max_right _ _) hm) h8⟩
  | .set _, _, h => h
  | .ins n fs, hm, ⟨C, dx, fvs, h0, h1, h2⟩ => ⟨C, dx, fvs, h0, h1, FsR.cut hm h2⟩
  | .dead, _, h => h
theorem maxSt_at : ∀ {S : Sto} {n : Nat} {o : OD}, S[n]? = some o → maxO o ≤ maxSt S
  | [], n, o, h => by simp at h
  | p :: q, 0, o, h => by
    simp at h
    subst h
    exact Nat.le_max_left _ _
  | p :: q, n + 1, o, h => Nat.le_trans (maxSt_at (S := q) (n := n) (by simpa using h)) (Nat.le_max_right _ _)
theorem cut_ok {ρ' : List Addr} {S' : Sto} {n : Nat} {d : D} {v : V} (hn : ρ.length = n) (hp : Pre ρ ρ') (R : Rel g c ρ' S' H) (hd : DV g ρ' H c d v) : ∃ ρ2, Pre ρ ρ2 ∧ Rel g c ρ2 (cutSt n d S') H ∧ DV g ρ2 H c d v := by
  unfold cutSt
  cases h1 : Nat.ble (maxLoc d) n with
  | false => exact ⟨ρ', hp, R, hd⟩
  | true =>
    cases h2 : Nat.ble (maxSt (S'.take n)) n with
    | false => exact ⟨ρ', hp, R, hd⟩
    | true =>
      obtain ⟨r, rfl⟩ := hp
      have h1 := Nat.le_of_ble_eq_true h1
      have h2 := Nat.le_of_ble_eq_true h2
      refine ⟨ρ, Pre.refl _, ⟨?_, (List.nodup_append.mp R.nd).1, fun m o a e1 e2 => ?_, R.tab⟩, DV.trim d (by rw [hn]; exact h1) hd⟩
      · have := R.len
        rw [List.length_append] at this
        show ρ.length = (S'.take n).length
        rw [List.length_take]
        omega
      · have e1 : (S'.take n)[m]? = some o := e1
        have hm := Nat.le_trans (maxSt_at e1) h2
        have e3 : S'[m]? = some o := by
          rw [List.getElem?_take] at e1
          split at e1
          · exact e1
          · cases e1
        exact OR.cut (by rw [hn]; exact hm) (R.sto m o a e3 (by rw [List.getElem?_append_left (List.getElem?_eq_some_iff.mp e2).1]; exact e2))
end
/-! ### statements, then the last -/
theorem execs_app {Mo : Model} {A : Around} {E : Value → Shared → Prop} {env : Env} {l2 : List Stmt} {R : Flow → Shared → Prop} : ∀ {l1 : List Stmt} {s : Shared}, wpAny Mo A (execs l1 env) (fun f s' => match f with
    | .next => wpAny Mo A (execs l2 env) R E s'
    | f => R f s') E s → wpAny Mo A (execs (l1 ++ l2) env) R E s := by
  have key : ∀ (l1 : List Stmt) (Γ : PySem.Ctx) (p : Pos) (s : Shared), Γ.In A → Sem.wp Mo Γ (execs l1 env) (fun f _ s' => match f with
    | .next => wpAny Mo A (execs l2 env) R E s'
    | f => R f s') (fun e _ s' => E e s') p s → Sem.wp Mo Γ (execs (l1 ++ l2) env) (fun f _ s' => R f s') (fun e _ s' => E e s') p s := by
    intro l1
    induction l1 with
    | nil =>
      intro Γ p s hΓ h
      have h : wpAny Mo A (execs l2 env) R E s := h
      exact h Γ p hΓ
    | cons st rest ih =>
      intro Γ p s hΓ h
      show Sem.wp Mo Γ (exec st env >>= fun f => match f with | .next => execs (rest ++ l2) env | f => pure f) _ _ p s
      have h : Sem.wp Mo Γ (exec st env >>= fun f => match f with | .next => execs rest env | f => pure f) _ _ p s := h
      rw [Sem.wp_bind'] at h ⊢
      refine Sem.wp_mono Mo Γ _ (fun f p' s' h' => ?_) (fun _ _ _ h' => h') p s h
      cases f with
      | next => exact ih Γ p' s' hΓ h'
      | ret v => exact h'
      | brk => exact h'
      | cont => exact h'
  exact fun {l1 s} h Γ p hΓ => key l1 Γ p s hΓ (h Γ p hΓ)
theorem lastRet_eq : ∀ {l ss : List Stmt} {e : Expr}, lastRet l = some (ss, e) → ∃ pos, l = ss ++ [.Return (some e) pos]
  | [], _, _, h => by cases h
  | s :: r, ss, e, h => by
    unfold lastRet at h
    split at h
    · cases h
    · rename_i e' p heq
      cases heq
      cases h
      exact ⟨p, rfl⟩
    · rename_i s' r' _ heq
      cases heq
      obtain ⟨a, e', h1, h2⟩ := bnd_some h
      cases h2
      obtain ⟨p, hp⟩ := lastRet_eq h1
      exact ⟨p, by rw [hp]; rfl⟩
/-! ### bindings by values -/
section
variable {R : D → Value → Prop}
inductive RL (R : D → Value → Prop) : List D → List Value → Prop where
  | nil : RL R [] []
  | cons {d : D} {u : Value} {ds : List D} {us : List Value} (h : R d u) (t : RL R ds us) : RL R (d :: ds) (u :: us)
inductive KL (R : D → Value → Prop) : List (Str × D) → List (Str × Value) → Prop where
  | nil : KL R [] []
  | cons {x : Str} {d : D} {u : Value} {ds : List (Str × D)} {us : List (Str × Value)} (h : R d u) (t : KL R ds us) : KL R ((x, d) :: ds) ((x, u) :: us)
theorem RL.length {ds : List D} {us : List Value} (h : RL R ds us) : ds.length = us.length := by
  induction h with
  | nil => rfl
  | cons _ _ ih => rw [List.length_cons, List.length_cons, ih]
theorem RL.at {ds : List D} {us : List Value} (h : RL R ds us) : ∀ {i : Nat} {d : D}, ds[i]? = some d → ∃ u, us[i]? = some u ∧ R d u := by
  induction h with
  | nil => intro i d e; simp at e
  | cons h _ ih =>
    intro i d e
    cases i with
    | zero =>
      simp at e
      subst e
      exact ⟨_, rfl, h⟩
    | succ i => simpa using ih (by simpa using e)
theorem RL.append {ds es : List D} {us ws : List Value} (h : RL R ds us) (h2 : RL R es ws) : RL R (ds ++ es) (us ++ ws) := by
  induction h with
  | nil => exact h2
  | cons h _ ih => exact .cons h ih
theorem KL.look {ds : List (Str × D)} {us : List (Str × Value)} (h : KL R ds us) (x : Str) : (K76.look x ds = none ∧ K76.look x us = none) ∨ ∃ d u, K76.look x ds = some d ∧ K76.look x us = some u ∧ R d u := by
  induction h with
  | nil => exact .inl ⟨rfl, rfl⟩
  | @cons y d u ds us h t ih =>
    rw [K76.look, K76.look]
    cases hy : eqS y x with
    | true => exact .inr ⟨d, u, rfl, rfl, h⟩
    | false => exact ih
theorem KL.has {ds : List (Str × D)} {us : List (Str × Value)} (h : KL R ds us) (x : Str) : hasK x us = hasK x ds := by
  unfold hasK
  rcases h.look x with ⟨h1, h2⟩ | ⟨d, u, h1, h2, _⟩
  · rw [h1, h2]
  · rw [h1, h2]
theorem KL.fit {rest : List Str} {ds : List (Str × D)} {us : List (Str × Value)} (h : KL R ds us) : kwFit rest us = kwFit rest ds := by
  induction h with
  | nil => rfl
  | @cons y d u ds us h t ih =>
    show (match hasS y rest && !hasK y us with | true => kwFit rest us | false => false) = (match hasS y rest && !hasK y ds with | true => kwFit rest ds | false => false)
    rw [t.has, ih]
theorem kwGo_rel {kws : List (Str × D)} {kwv : List (Str × Value)} {dfl : List D} {dv : List Value} (hk : KL R kws kwv) (hd : RL R dfl dv) : ∀ {l : List Str} {q : List D}, kwGo kws dfl l = some q → ∃ q', kwGo kwv dv l = some q' ∧ RL R q q'
  | [], q, h => by
    cases h
    exact ⟨[], rfl, .nil⟩
  | p :: r, q, h => by
    rw [kwGo] at h
    rw [kwGo]
    rcases hk.look p with ⟨h1, h2⟩ | ⟨d, u, h1, h2, hr⟩
    · rw [h1] at h
      rw [h2]
      dsimp only at h ⊢
      rw [← hd.length]
      cases hb : Nat.ble (r.length + 1) dfl.length with
      | false => rw [hb] at h; cases h
      | true =>
        rw [hb] at h
        obtain ⟨d, e1, h⟩ := opt_some h
        obtain ⟨q', e2, h⟩ := opt_some h
        cases h
        rw [nth_eq] at e1
        obtain ⟨u, e3, hr⟩ := hd.at e1
        obtain ⟨qv, e4, ht⟩ := kwGo_rel hk hd e2
        refine ⟨u :: qv, ?_, .cons hr ht⟩
        show opt (K76.nth dv _) _ = _
        rw [nth_eq, e3]
        show opt (kwGo kwv dv r) _ = _
        rw [e4]
        rfl
    · rw [h1] at h
      rw [h2]
      obtain ⟨q', e2, h⟩ := opt_some h
      cases h
      obtain ⟨qv, e4, ht⟩ := kwGo_rel hk hd e2
      refine ⟨u :: qv, ?_, .cons hr ht⟩
      show opt (kwGo kwv dv r) _ = _
      rw [e4]
      rfl
theorem bind_rel {ps : List Str} {dfl pos q : List D} {dv us : List Value} {kws : List (Str × D)} {kwv : List (Str × Value)} (hd : RL R dfl dv) (hp : RL R pos us) (hk : KL R kws kwv) (h : bindD ps dfl pos kws = some q) : ∃ q', bindD ps dv us kwv = some q' ∧ RL R q q' := by
  obtain ⟨h1, h⟩ := grd_some h
  obtain ⟨t, h2, h⟩ := opt_some h
  cases h
  obtain ⟨t', h3, h4⟩ := kwGo_rel hk hd h2
  refine ⟨us ++ t', ?_, hp.append h4⟩
  unfold bindD
  rw [← hp.length, hk.fit, h1, h3]
  rfl
end
section
variable {g : G} {ρ : List Addr} {H : Hp} {c : Cl}
/-- a datum and a value of the machine -/
def DU (g : G) (ρ : List Addr) (H : Hp) (c : Cl) (d : D) (u : Value) : Prop := ∃ v, DV g ρ H c d v ∧ RelV v u
theorem RL.of : ∀ {ds : List D} {vs : List V} {us : List Value}, DVs g ρ H c ds vs → Vals vs us → RL (DU g ρ H c) ds us
  | [], vs, us, h, r => by
    have h : vs = [] := h
    subst h
    cases r
    exact .nil
  | d :: ds, _, us, ⟨v, q, e, h1, h2⟩, r => by
    subst e
    cases r with
    | cons r1 rr => exact .cons ⟨v, h1, r1⟩ (RL.of h2 rr)
theorem RL.back {ds : List D} {us : List Value} (h : RL (DU g ρ H c) ds us) : ∃ vs, DVs g ρ H c ds vs ∧ Vals vs us := by
  induction h with
  | nil => exact ⟨[], rfl, .nil⟩
  | cons h _ ih =>
    obtain ⟨v, h1, h2⟩ := h
    obtain ⟨vs, i1, i2⟩ := ih
    exact ⟨v :: vs, .cons h1 i1, .cons h2 i2⟩
theorem KL.of : ∀ {kws : List (Str × D)} {zs : List V} {ws : List Value}, DVs g ρ H c (kws.map (·.2)) zs → Vals zs ws → KL (DU g ρ H c) kws ((kws.map (·.1)).zip ws)
  | [], zs, ws, h, r => by
    have h : zs = [] := h
    subst h
    cases r
    exact .nil
  | (x, d) :: kws, _, ws, ⟨v, q, e, h1, h2⟩, r => by
    subst e
    cases r with
    | cons r1 rr => exact .cons ⟨v, h1, r1⟩ (KL.of h2 rr)
end
end K76
end

/-! text SetT -/
section
namespace K76
open PySem PySem.Spec PyProof.Rows L2
theorem get_none' {h : Heap} {b : Addr} (hb : h.objs.size ≤ b) : h.get? b = none := by
  cases q : h.get? b with
  | none => rfl
  | some o => exact absurd (Nat.lt_of_lt_of_le (Heap.lt_size q) hb) (Nat.lt_irrefl _)
/-! ### set(t), t a tuple of tuples of ints -/
/-- a new set's object -/
abbrev newSetO (w : World) : Obj := { cls := .type "set", dict := none, data := .set #[] 0 (.fresh 0 0 (!w.params.followText "set-order")) }
section
variable {P : Program} {w : World} {A : Around} {E : Value → Shared → Prop} {s : Shared}
set_option maxHeartbeats 3200000 in
theorem call_set_tupsT {l : Addr} {items : Array Value} (ks : List (Addr × List Int)) {Q : Value → Shared → Prop} (hh : A.handled = none) (hl : s.heap.IsTuple l items) (hit : items.toList = ks.map fun p => Value.ref p.1)
    (hk : ∀ p ∈ ks, IsT P w s.heap p.2 p.1) (hfew : ks.length < 64) (hu : A.units + 3 < cLine)
    (h : ∀ (h' : Heap) (tk : Nat) L es ep t, SetTR P w h' s.heap.objs.size L es ep t → Got ks ks.length L → (∀ b o, s.heap.get? b = some o → h'.get? b = some o) → Q (.ref s.heap.objs.size) { s with heap := h', toks := tk }) :
    wpAny (model P w) A (call (.type "set") [.ref l]) Q E s := by
  have hisz : items.size = ks.length := by
    have q := congrArg List.length hit
    rwa [Array.length_toList, List.length_map] at q
  obtain ⟨c, tl, hmro⟩ := F.called_set.mro
  have hmade := F.called_set.made
  have hsub := F.called_set.sub
  refine wpAny_call (codeAny_of_tree ?_)
  show wpAny _ _ (callAny (.type "set") _) _ _ _
  refine wpAny_pure ⟨Code.quiet_builtin _ (by decide +kernel), codeAny_builtin F.entry_type_call ?_⟩
  rw [Around.under_plain (weight_type_call_type "set" [.ref l] []) rfl]
  have h1 := F.called_set.notType
  have h2 := F.called_set.canCreate
  have hct := F.typeCall_set_1 (.ref l)
  repeat (any_goals (first | assumption | wp_step))
  refine codeAny_mono (code_set_led1 (.ref l) (E := E) (Q₁ := fun obj s₁ => obj = .ref s.heap.objs.size ∧ s₁ = { s with heap := s.heap.push (newSetO w) }) ⟨rfl, rfl⟩) fun r s₁ hr => ?_
  cases r with
  | error e => exact hr
  | ok fl =>
    cases fl with
    | ret obj =>
      obtain ⟨rfl, rfl⟩ := hr
      have hS : (s.heap.push (newSetO w)).get? s.heap.objs.size = some (newSetO w) := Heap.get?_push_size _ rfl
      have hT : Shared.TypeIs { s with heap := s.heap.push (newSetO w) } (.ref s.heap.objs.size) "set" := ⟨_, hS, rfl⟩
      have hli := F.called_set.init.lookup
      have hbi := F.called_set.init.bind (.ref s.heap.objs.size)
      repeat (any_goals (first | assumption | wp_step))
      refine codeAny_mono (codeAny_call_builtin (R := wants (fun r s₂ => r = .none ∧ ∃ h' tk L es ep t, s₂ = { s with heap := h', toks := tk } ∧ SetTR P w h' s.heap.objs.size L es ep t ∧ Got ks ks.length L ∧
          (∀ b o, s.heap.get? b = some o → h'.get? b = some o)) E) F.called_set.init.plain F.entry_set_init (check_set_init_1 hT ?_)) fun r₂ s₂ hr₂ => ?_
      · obtain ⟨ol, hol, hcl, nl, hdl⟩ := hl
        obtain ⟨ocls, odict, odata, oslots⟩ := ol
        simp only at hcl hdl
        subst hcl; subst hdl
        have hol' : (s.heap.push (newSetO w)).get? l = some { cls := .type "tuple", dict := odict, data := .seq items nl, slots := oslots } := Heap.get?_push_of_some _ hol
        have hsls := F.sub_tuple_set
        have hslf := F.sub_tuple_frozenset
        have hne : (Value.type "tuple" == Value.type "dict") = false := by decide
        have hl1 : (s.heap.push (newSetO w)).IsTuple l items := ⟨_, hol', rfl, nl, rfl⟩
        unfold Builtin.«set.__init__» noKeywords Builtin.Frozenset.updateFrom
        generalize hPI : pyIter = PI
        wp_walk
        subst hPI
        refine wpAny_pyIter_tuple hl1 ?_
        refine wpAny_bind (wpAny_runValue ?_)
        have hlS : l < s.heap.objs.size := Heap.lt_size hol
        have hh3 : A.in1.in1.in1.handled = none := by simp [hh]
        have hsz1 : (s.heap.push (newSetO w)).objs.size = s.heap.objs.size + 1 := Heap.size_push _ _
        have hneI : l ≠ (s.heap.push (newSetO w)).objs.size := by
          rw [hsz1]; exact Nat.ne_of_lt (Nat.lt_succ_of_lt hlS)
        have hSf : s.heap.objs.size ∉ [(s.heap.push (newSetO w)).objs.size, l] := by
          rw [hsz1]; simp only [List.mem_cons, List.mem_singleton, List.not_mem_nil, or_false, not_or]
          exact ⟨Nat.ne_of_lt (Nat.lt_succ_self _), Nat.ne_of_gt hlS⟩
        have hval : ∀ (i : Nat) (v : Value), items[i]? = some v → ∃ p, ks[i]? = some p ∧ v = .ref p.1 := fun i v hv => by
          have q : items.toList[i]? = some v := by rw [Array.getElem?_toList]; exact hv
          rw [hit, List.getElem?_map] at q
          cases hq : ks[i]? with
          | none => rw [hq] at q; cases q
          | some p =>
            rw [hq] at q
            exact ⟨p, rfl, (Option.some.inj q).symm⟩
        refine set_update_tups ((Walks.tuple hh3 _ l hneI items).toS) s.heap.objs.size
          hSf ks hisz hfew hval s.heap hk (get_none' (Nat.le_refl _)) (fun b hb => get_none' (by
            rw [List.mem_singleton.mp hb, hsz1]
            exact Nat.le_succ _)) hu (items.size - 0) 0 _ (by omega) (Nat.zero_le _)
          ⟨⟨_, Heap.get?_push_size _ rfl, rfl, rfl⟩, (hl1.push _)⟩ (fun b o e => Heap.get?_push_of_some _ (Heap.get?_push_of_some _ e)) ?hS0 ?hR
        case hS0 =>
          have hget := Heap.get?_push_of_some { cls := .type "tuple_iterator", data := .fields #[.ref l, .int 0 0] } hS
          exact ⟨[], #[], 0, _, setTR_fresh hget, Got.zero ks⟩
        case hR =>
          intro s' L es ep t hm hS' g' hkp
          obtain ⟨h', g2, d', tk', os'⟩ := s'
          have eg : g2 = s.gens := hm.gens
          have ed : d' = s.drawn := hm.drawn
          have eo : os' = s.os := hm.os
          subst eg; subst ed; subst eo
          show wpAny _ _ _ _ _ _
          refine wpAny_pure ?_
          show wpAny _ _ (ret Value.none) _ _ _
          rw [hisz] at g'
          exact wpAny_pure ⟨rfl, h', tk', L, es, ep, t, rfl, hS', g', hkp⟩
      · cases r₂ with
        | error e => exact hr₂
        | ok fl₂ =>
          cases fl₂ with
          | ret r =>
            obtain ⟨rfl, h', tk, L, es, ep, t, rfl, hS', g', hk'⟩ := hr₂
            repeat (any_goals (first | assumption | wp_step))
            exact h _ _ _ _ _ _ hS' g' hk'
          | _ => exact hr₂.elim
    | _ => exact hr.elim
end
end K76
end

/-! text Sets -/
section
namespace K76
open PySem PySem.Spec PyProof.Rows L2
/-! ### int tuples as data -/
theorem eqDs_ints : ∀ {xs ys : List D} {a b : List Int}, allOf asI xs = some a → allOf asI ys = some b → eqDs xs ys = some (decide (a = b))
  | [], [], _, _, h1, h2 => by
    cases h1
    cases h2
    rfl
  | [], y :: ys, _, b, h1, h2 => by
    cases h1
    obtain ⟨j, _, h2⟩ := opt_some (show opt (asI y) (fun a => opt (allOf asI ys) fun q => some (a :: q)) = some b from h2)
    obtain ⟨q, _, h2⟩ := opt_some h2
    cases h2
    rfl
  | x :: xs, [], a, _, h1, h2 => by
    cases h2
    obtain ⟨j, _, h1⟩ := opt_some (show opt (asI x) (fun a => opt (allOf asI xs) fun q => some (a :: q)) = some a from h1)
    obtain ⟨q, _, h1⟩ := opt_some h1
    cases h1
    rfl
  | x :: xs, y :: ys, a, b, h1, h2 => by
    obtain ⟨i, e1, h1⟩ := opt_some (show opt (asI x) (fun a => opt (allOf asI xs) fun q => some (a :: q)) = some a from h1)
    obtain ⟨p, e2, h1⟩ := opt_some h1
    cases h1
    obtain ⟨j, e3, h2⟩ := opt_some (show opt (asI y) (fun a => opt (allOf asI ys) fun q => some (a :: q)) = some b from h2)
    obtain ⟨q, e4, h2⟩ := opt_some h2
    cases h2
    have ih := eqDs_ints e2 e4
    rw [asI_some e1, asI_some e3]
    show opt (some (decide (i = j))) (fun b => match b with | true => eqDs xs ys | false => some false) = _
    by_cases hij : i = j
    · subst hij
      show (match decide (i = i) with | true => eqDs xs ys | false => some false) = _
      rw [decide_eq_true rfl]
      show eqDs xs ys = _
      rw [ih]
      simp
    · show (match decide (i = j) with | true => eqDs xs ys | false => some false) = _
      rw [decide_eq_false hij]
      simp [hij]
theorem intsD_some {d : D} {k : List Int} (h : intsD d = some k) : ∃ xs, d = .tup xs ∧ allOf asI xs = some k := by
  cases d with
  | tup xs => exact ⟨xs, rfl, h⟩
  | _ => cases h
theorem eqD_ints {x y : D} {a b : List Int} (h1 : intsD x = some a) (h2 : intsD y = some b) : eqD x y = some (decide (a = b)) := by
  obtain ⟨xs, rfl, h1⟩ := intsD_some h1
  obtain ⟨ys, rfl, h2⟩ := intsD_some h2
  exact eqDs_ints h1 h2
theorem memD_ints {x : D} {k : List Int} (hx : intsD x = some k) : ∀ {acc : List D} {ka : List (List Int)}, allOf intsD acc = some ka → memD x acc = some (decide (k ∈ ka))
  | [], _, h => by
    cases h
    simp [memD]
  | y :: r, ka, h => by
    obtain ⟨a, e1, h⟩ := opt_some (show opt (intsD y) (fun a => opt (allOf intsD r) fun q => some (a :: q)) = some ka from h)
    obtain ⟨q, e2, h⟩ := opt_some h
    cases h
    show opt (eqD y x) (fun b => match b with | true => some true | false => memD x r) = _
    rw [eqD_ints e1 hx]
    show (match decide (a = k) with | true => some true | false => memD x r) = _
    by_cases hak : a = k
    · rw [decide_eq_true hak]
      simp [hak]
    · rw [decide_eq_false hak]
      show memD x r = _
      rw [memD_ints hx e2]
      simp [Ne.symm hak]
theorem allOf_app {α : Type} {f : D → Option α} : ∀ {xs ys : List D} {a b : List α}, allOf f xs = some a → allOf f ys = some b → allOf f (xs ++ ys) = some (a ++ b)
  | [], _, _, _, h1, h2 => by
    cases h1
    exact h2
  | x :: xs, ys, a, b, h1, h2 => by
    obtain ⟨i, e1, h1⟩ := opt_some (show opt (f x) (fun a => opt (allOf f xs) fun q => some (a :: q)) = some a from h1)
    obtain ⟨p, e2, h1⟩ := opt_some h1
    cases h1
    show opt (f x) (fun a => opt (allOf f (xs ++ ys)) fun q => some (a :: q)) = _
    rw [e1, allOf_app e2 h2]
    rfl
theorem allOf_rev {α : Type} {f : D → Option α} : ∀ {xs : List D} {a : List α}, allOf f xs = some a → allOf f xs.reverse = some a.reverse
  | [], _, h => by
    cases h
    rfl
  | x :: xs, a, h => by
    obtain ⟨i, e1, h⟩ := opt_some (show opt (f x) (fun a => opt (allOf f xs) fun q => some (a :: q)) = some a from h)
    obtain ⟨p, e2, h⟩ := opt_some h
    cases h
    rw [List.reverse_cons, List.reverse_cons]
    refine allOf_app (allOf_rev e2) ?_
    show opt (f x) (fun a => opt (allOf f []) fun q => some (a :: q)) = _
    rw [e1]
    rfl
theorem allOf_len {α : Type} {f : D → Option α} : ∀ {xs : List D} {a : List α}, allOf f xs = some a → xs.length = a.length
  | [], _, h => by
    cases h
    rfl
  | x :: xs, a, h => by
    obtain ⟨i, e1, h⟩ := opt_some (show opt (f x) (fun a => opt (allOf f xs) fun q => some (a :: q)) = some a from h)
    obtain ⟨p, e2, h⟩ := opt_some h
    cases h
    rw [List.length_cons, List.length_cons, allOf_len e2]
theorem dedup_spec : ∀ {ds acc q : List D} {ks ka : List (List Int)}, allOf intsD ds = some ks → allOf intsD acc = some ka → ka.Nodup → dedup ds acc = some q → ∃ kq, allOf intsD q = some kq ∧ kq.Nodup ∧ ∀ k, k ∈ kq ↔ k ∈ ks ∨ k ∈ ka
  | [], acc, q, ks, ka, h1, h2, hn, h => by
    cases h1
    cases h
    exact ⟨ka.reverse, allOf_rev h2, (List.reverse_perm ka).nodup_iff.mpr hn, fun k => by simp⟩
  | x :: r, acc, q, ks, ka, h1, h2, hn, h => by
    obtain ⟨a, e1, h1⟩ := opt_some (show opt (intsD x) (fun a => opt (allOf intsD r) fun q => some (a :: q)) = some ks from h1)
    obtain ⟨p, e2, h1⟩ := opt_some h1
    cases h1
    obtain ⟨b, e3, h⟩ := opt_some (show opt (memD x acc) (fun b => match b with | true => dedup r acc | false => dedup r (x :: acc)) = some q from h)
    rw [memD_ints e1 h2] at e3
    cases e3
    by_cases hm : a ∈ ka
    · rw [decide_eq_true hm] at h
      obtain ⟨kq, i1, i2, i3⟩ := dedup_spec e2 h2 hn h
      refine ⟨kq, i1, i2, fun k => ?_⟩
      rw [i3, List.mem_cons]
      constructor
      · rintro (z | z)
        · exact .inl (.inr z)
        · exact .inr z
      · rintro ((z | z) | z)
        · exact .inr (by rw [z]; exact hm)
        · exact .inl z
        · exact .inr z
    · rw [decide_eq_false hm] at h
      have h2' : allOf intsD (x :: acc) = some (a :: ka) := by
        show opt (intsD x) (fun a => opt (allOf intsD acc) fun q => some (a :: q)) = _
        rw [e1, h2]
        rfl
      obtain ⟨kq, i1, i2, i3⟩ := dedup_spec e2 h2' (List.nodup_cons.mpr ⟨hm, hn⟩) h
      refine ⟨kq, i1, i2, fun k => ?_⟩
      rw [i3, List.mem_cons, List.mem_cons]
      constructor
      · rintro (z | z | z)
        · exact .inl (.inr z)
        · exact .inl (.inl z)
        · exact .inr z
      · rintro ((z | z) | z)
        · exact .inr (.inl z)
        · exact .inl z
        · exact .inr (.inr z)
section
variable {g : G} {X : Cx} {k : Nat}
theorem rows_of {ρ : List Addr} {H : Hp} {c : Cl} : ∀ {ds : List D} {kss : List (List Int)} {vs : List V}, allOf intsD ds = some kss → DVs g ρ H c ds vs → ∃ ks : List (Addr × List Int), vs = ks.map (fun p => V.ref p.1) ∧ ks.map (·.2) = kss ∧ ∀ p ∈ ks, SqS g.K H p.1 (p.2.map V.int)
  | [], _, vs, h, hd => by
    cases h
    have hd : vs = [] := hd
    subst hd
    exact ⟨[], rfl, rfl, fun p hp => by cases hp⟩
  | d :: r, kss, vs, h, hd => by
    obtain ⟨a, e1, h⟩ := opt_some (show opt (intsD d) (fun a => opt (allOf intsD r) fun q => some (a :: q)) = some kss from h)
    obtain ⟨q, e2, h⟩ := opt_some h
    cases h
    obtain ⟨v, vr, rfl, h1, h2⟩ := hd
    obtain ⟨xs, rfl, e3⟩ := intsD_some e1
    obtain ⟨p, vs', rfl, h3, h4⟩ := h1
    have e4 := allOf_ints e3 h4
    subst e4
    obtain ⟨ks, rfl, i2, i3⟩ := rows_of e2 h2
    refine ⟨(p, a) :: ks, rfl, by rw [List.map_cons, i2], fun x hx => ?_⟩
    rcases List.mem_cons.mp hx with rfl | hx
    · exact h3
    · exact i3 x hx
/-- the new set -/
theorem SetN.new {pins : List (Addr × Obj)} {σ : L2.St} {H : Hp} {s : Shared} (hP : X.prog = g.P) (hw : X.w = g.w) {H' : Hp} {q : List D} {kq : List (List Int)} {h' : Heap} {a : Addr} {L : List (Addr × List Int)} {es : Array (Int × Value)} {ep : Nat} {t : SetTable} (R : SetTR X.prog X.w h' a L es ep t) (hq : allOf intsD q = some kq) (hp : kq.Perm (L.map (·.2)))
    (hs : ∀ p ∈ L, SqS g.K H' p.1 (p.2.map V.int)) : ∃ o, h'.get? a = some o ∧ (H' a = some (DictO a o) → SetN g H' q a o es ep t) := by
  obtain ⟨o, ho, hex, hd⟩ := R.ob
  refine ⟨o, ho, fun hH => ⟨hH, hex, hd, R.fits (s := { s with heap := h' }), ?_, ?_, .inr ⟨L, kq, hq, hp, hs, ?_, ?_, R.nd, R.plain, ?_, R.room⟩⟩⟩
  · rw [R.size (s := { s with heap := h' }), allOf_len hq, hp.length_eq, List.length_map]
  · rw [R.size (s := { s with heap := h' })]
    exact R.few
  · rw [← hP, ← hw]
    exact R.rows
  · rw [← hP, ← hw]
    exact R.tab
  · rw [← hw]
    exact R.led
theorem b_set (hc : X.calm = true) (hP : X.prog = g.P) (hw : X.w = g.w) (hK : X.K = g.K) (hr : Room k X.A) : CallR X (.type "set") (rCB g (on1 (bTy1 "set"))) := by
  intro pins s σ H xs us Q I r h
  obtain ⟨cl, ρ, S, σd, σe, ds0, d, S1, M, h1, h3, F⟩ := h
  obtain ⟨a, v, rfl, h1, h3⟩ := on1_some h3 h1
  obtain ⟨u, rfl, rx⟩ := vals1 r
  obtain ⟨ds, e1, h3⟩ := opt_some (show opt (seqOf S a) (fun ds => match ds with
    | [] => some (K76.new S (.set []))
    | [d] => opt (asS d) fun _ => some (K76.new S (.set [d]))
    | _ :: _ :: _ => opt (allOf intsD ds) fun _ => opt (dedup ds []) fun q => grd (Nat.blt ds.length 60) (some (K76.new S (.set q)))) = some (d, S1) from h3)
  have hun := hr.un
  -- what is given: a list or a tuple
  obtain ⟨b, vs, its, rfl, hseq, hvs, hv, hor⟩ : ∃ (b : Addr) (vs : List V) (its : List Value), u = .ref b ∧ DVs g ρ H cl ds vs ∧ Vals vs its ∧ True ∧ (s.heap.IsList b its.toArray ∨ s.heap.IsTuple b its.toArray) := by
    cases a with
    | tup l =>
      cases e1
      obtain ⟨p, vs, rfl, q1, q2⟩ := h1
      cases rx
      obtain ⟨its, r', ht, _⟩ := I.tuple (by rw [hK]; exact q1.sq)
      exact ⟨p, vs, its, rfl, q2, r', trivial, .inr ht⟩
    | loc n =>
      obtain ⟨_, p, vs, _, q1, rfl, q4, q5⟩ := M.lst h1 (show asL S (.loc n) = some ds from e1)
      cases rx
      obtain ⟨its, r', pl, _⟩ := I.list (SqL.of q4)
      exact ⟨p, vs, its, rfl, q5, r', trivial, .inl pl.isList⟩
    | _ => cases e1
  -- the end
  have fin : ∀ {q : List D} {o : Obj} {es : Array (Int × Value)} {ep : Nat} {t : SetTable} {h' : Heap} {tk : Nat}, Fin g cl ρ H σd σe (.loc S.length) (S ++ [.set q]) Q → (∀ b o, s.heap.get? b = some o → h'.get? b = some o) → h'.get? s.heap.objs.size = some o → (∀ H' : Hp, Le H H' → H' s.heap.objs.size = some (DictO s.heap.objs.size o) → SetN g H' q s.heap.objs.size o es ep t) →
      EP X pins σ Q (.ref s.heap.objs.size) { s with heap := h', toks := tk } := by
    intro q o es ep t h' tk F kp ho hN
    have hn : H s.heap.objs.size = none := I.hok.fresh (Nat.le_refl _)
    have l := le_new (o := DictO s.heap.objs.size o) hn
    refine ⟨.ref s.heap.objs.size, upd H s.heap.objs.size (DictO s.heap.objs.size o), I.laid (t' := tk) kp (Nat.le_refl _) ⟨ho, ⟨o, ho⟩, fun h1 h2 p k => k o p⟩, rfl, ?_⟩
    refine F.go (ρ ++ [s.heap.objs.size]) _ _ ⟨_, rfl⟩ l (M.push hn ⟨o, es, ep, t, hN _ l upd_same⟩) ⟨_, ?_, rfl⟩
    rw [List.getElem?_append_right (by rw [M.rel.len]; exact Nat.le_refl _), M.rel.len, Nat.sub_self]
    rfl
  have tups : ∀ (q : List D) (kss kq : List (List Int)), allOf intsD ds = some kss → ds.length < 60 → allOf intsD q = some kq → kq.Nodup → (∀ k, k ∈ kq ↔ k ∈ kss) → Fin g cl ρ H σd σe (.loc S.length) (S ++ [.set q]) Q → wpAny (model X.prog X.w) X.A (call (.type "set") [.ref b]) (EP X pins σ Q) X.xe s := by
    intro q kss kq hk hlen hq hnd hmem F
    obtain ⟨ks, rfl, ek, hks⟩ := rows_of hk hseq
    have hit : its.toArray.toList = ks.map fun p => Value.ref p.1 := by simpa using refs_of_vals hvs
    have hkT : ∀ p ∈ ks, IsT X.prog X.w s.heap p.2 p.1 := fun p hp => I.isT (by rw [hK]; exact (hks p hp).sq)
    have hkl : ks.length < 64 := by
      have := allOf_len hk
      rw [← ek, List.length_map] at this
      omega
    have done : ∀ (h' : Heap) (tk : Nat) L es ep t, SetTR X.prog X.w h' s.heap.objs.size L es ep t → Got ks ks.length L → (∀ b o, s.heap.get? b = some o → h'.get? b = some o) → EP X pins σ Q (.ref s.heap.objs.size) { s with heap := h', toks := tk } := by
      intro h' tk L es ep t R G kp
      have sub : ∀ p ∈ L, p ∈ ks := fun p hp => List.mem_of_mem_take (G.sub p hp)
      have hperm : kq.Perm (L.map (·.2)) := by
        refine (List.perm_ext_iff_of_nodup hnd R.nd).mpr fun x => ?_
        rw [hmem, ← ek]
        constructor
        · intro hx
          obtain ⟨p, hp, rfl⟩ := List.mem_map.mp hx
          exact G.all p (by rw [List.take_length]; exact hp)
        · intro hx
          obtain ⟨p, hp, rfl⟩ := List.mem_map.mp hx
          exact List.mem_map.mpr ⟨p, sub p hp, rfl⟩
      obtain ⟨o, ho, _⟩ := R.ob
      refine fin (o := o) (es := es) (ep := ep) (t := t) F kp ho fun H' l hH => ?_
      obtain ⟨o', ho', hN⟩ := SetN.new (pins := pins) (σ := σ) (H := H) (s := s) hP hw (H' := H') R hq hperm fun p hp => l.sqS (hks p (sub p hp))
      rw [ho] at ho'
      cases ho'
      exact hN hH
    rcases hor with hl | hl
    · exact call_set_tups (P := X.prog) (w := X.w) ks (I.ok.hd hc) hl hit hkT hkl (by omega) done
    · exact call_set_tupsT (P := X.prog) (w := X.w) ks (I.ok.hd hc) hl hit hkT hkl (by omega) done
  match ds, h3, hseq, tups with
  | [], h3, hseq, tups =>
    cases h3
    exact tups [] [] [] rfl (by decide) rfl List.nodup_nil (fun k => Iff.rfl) F
  | [dz], h3, hseq, _ =>
    obtain ⟨z, e2, h3⟩ := opt_some h3
    cases h3
    have ez := asS_some e2
    subst ez
    obtain ⟨vz, q, rfl, hz, hq⟩ := hseq
    have hq : q = [] := hq
    subst hq
    have hz : vz = .str z := hz
    subst hz
    obtain ⟨uz, rfl, tkz, rfl⟩ : ∃ uz, its = [uz] ∧ ∃ t, uz = .str z t := by
      cases hvs with
      | cons r1 rr =>
        cases rr
        exact ⟨_, rfl, r1⟩
    have hi : PyProof.Rows.StrsAre ([Value.str z tkz].toArray.toList) [z] := by
      exact .cons _ _ .nil
    have done : ∀ (h' : Heap) (tk : Nat), h'.SetOf (PySem.strKind X.prog X.w) s.heap.objs.size (fun k' => (([z] : List Str).take [Value.str z tkz].toArray.size).any (· == k')) [Value.str z tkz].toArray.size →
        (∀ b o, b < s.heap.objs.size → s.heap.get? b = some o → h'.get? b = some o) → EP X pins σ Q (.ref s.heap.objs.size) { s with heap := h', toks := tk } := by
      intro h' tk hS hk
      obtain ⟨o, es, ep, t, ho, hex, hd, _, _, _, hf, hn⟩ := hS
      refine fin F (fun b o e => hk b o (Heap.lt_size e) e) ho fun H' l hH => ⟨hH, hex, hd, hf, hn, ?_, .inl ⟨by simp, fun d hd => ⟨z, by simpa using hd⟩⟩⟩
      rw [hn]
      show 1 < 64
      decide
    rcases hor with hl | hl
    · exact SS.call_set_listS (xs := [z]) (I.ok.hd hc) hl hi (by simp) done
    · exact SS.call_set_tupleS (xs := [z]) (I.ok.hd hc) hl hi (by simp) done
  | d1 :: d2 :: dr, h3, hseq, tups =>
    obtain ⟨kss, e2, h3⟩ := opt_some h3
    obtain ⟨q, e3, h3⟩ := opt_some h3
    obtain ⟨e4, h3⟩ := grd_some h3
    cases h3
    obtain ⟨kq, i1, i2, i3⟩ := dedup_spec e2 (show allOf intsD [] = some [] from rfl) List.nodup_nil e3
    exact tups _ _ _ e2 (Nat.lt_of_succ_le (Nat.le_of_ble_eq_true e4)) i1 i2 (fun k => by rw [i3]; simp) F
end
end K76
end

/-! text SetC -/
section
namespace K76
open PySem PySem.Spec PyProof.Rows L2 PpSet
section
variable {g : G} {X : Cx} {k : Nat}
open Classical in
/-- y joins the set at D -/
def AddR (g : G) (D : Addr) (y : V) (H : Hp) (Nx : Hp → Prop) : Prop := ∃ (a : Addr) (kx : List Int) (d : K76.D) (ds : List K76.D) (kss : List (List Int)) (o : Obj) (es : Array (Int × Value)) (ep : Nat) (t : SetTable), y = .ref a ∧ SqS g.K H a (kx.map V.int) ∧ intsD d = some kx ∧ SetN g H ds D o es ep t ∧ allOf intsD ds = some kss ∧
  ds.length < 60 ∧ ∀ o' es' ep' t', SetN g (upd H D (DictO D o')) (if kx ∈ kss then ds else ds ++ [d]) D o' es' ep' t' → Nx (upd H D (DictO D o'))
theorem set_add {pins : List (Addr × Obj)} {σ : L2.St} {H : Hp} {s : Shared} {E : Value → Shared → Prop} {D : Addr} {y : V} {u : Value} {Nx : Hp → Prop} {Q : Value → Shared → Prop} (hP : X.prog = g.P) (hw : X.w = g.w) (hK : X.K = g.K) (hu : X.A.units + 2 < cLine) (I : Inv X pins σ H s) (r : RelV y u) (h : AddR g D y H Nx)
    (hq : ∀ s' H', Inv X pins σ H' s' → Nx H' → Q .none s') : wpAny (model X.prog X.w) X.A (call (.builtin "set.add") [.ref D, u]) Q E s := by
  obtain ⟨a, kx, d, ds, kss, o, es, ep, t, rfl, ha, hd, N, hds, hlen, nx⟩ := h
  cases r
  obtain ⟨L, hperm, hsq, R⟩ := N.tr hP hw hK I hds
  have hx : IsT X.prog X.w s.heap kx a := I.isT (by rw [hK]; exact ha.sq)
  have hLl : L.length < 60 := by
    have h1 := hperm.length_eq
    rw [List.length_map] at h1
    have h2 := allOf_len hds
    omega
  refine wpAny_call_entry F.slot_set_add ⟨o, (I.hok D _ N.at_).1, N.ex.1⟩ F.entry_set_add ?_ (F.args_set_add_2 _ _)
  unfold Builtin.«set.add» Builtin.Frozenset.oneOther
  simp only [List.isEmpty_nil, bind_assoc]
  unfold Builtin.Frozenset.addrOf setAdd
  refine wpAny_bind (wpAny_pure ?_)
  try dsimp only
  refine wpAny_bind (wpAny_pure ?_)
  try dsimp only
  refine wpAny_bind ?_
  refine wpAny_holding ?_
  refine wpAny_bind (wpAny_pyHash_tuple (show X.A.in1.units < cLine from by show X.A.units + 1 < cLine; omega) hx ?_)
  refine add_at (s := { s with toks := s.toks + (kx.length + 1) }) R hx (show X.A.in1.units < cLine from by show X.A.units + 1 < cLine; omega) (by omega) fun b h' L' es' ep' t' hsb R' c1 c2 => ?_
  show wpAny _ _ (ret Value.none) _ _ _
  obtain ⟨o', ho', hex', hdat'⟩ := R'.ob
  have lw : Le H (upd H D (DictO D o')) := le_write N.at_ trivial
  have I' : Inv X pins σ (upd H D (DictO D o')) { s with heap := h', toks := s.toks + (kx.length + 1) } :=
    I.write (x := D) (e := D) (t' := s.toks + (kx.length + 1)) (by rw [N.at_]; trivial) (.inl rfl) (fun b u hb hu => (hsb.2 b hb).trans hu) ⟨o', ho'⟩ ⟨ho', ⟨o', ho'⟩, fun h1 h2 p k => k o' p⟩
  refine wpAny_pure ⟨_, rfl, hq _ _ I' (nx o' es' ep' t' ?_)⟩
  by_cases hm : kx ∈ kss
  · rw [if_pos hm]
    have hL : kx ∈ L.map (·.2) := hperm.mem_iff.mp hm
    have eL := c1 hL
    subst eL
    obtain ⟨o2, ho2, hN⟩ := SetN.new (pins := pins) (σ := σ) (H := H) (s := s) hP hw (H' := upd H D (DictO D o')) R' hds hperm fun p hp => lw.sqS (hsq p hp)
    rw [ho'] at ho2
    cases ho2
    exact hN upd_same
  · rw [if_neg hm]
    have hL : kx ∉ L.map (·.2) := fun z => hm (hperm.mem_iff.mpr z)
    have pm := c2 hL
    have hq2 : allOf intsD (ds ++ [d]) = some (kss ++ [kx]) := allOf_app hds (by
      show opt (intsD d) (fun a => opt (allOf intsD []) fun q => some (a :: q)) = _
      rw [hd]
      rfl)
    have hp2 : (kss ++ [kx]).Perm (L'.map (·.2)) := by
      refine (List.perm_append_comm.trans ?_).trans (pm.map (·.2)).symm
      show (kx :: kss).Perm (kx :: L.map (·.2))
      exact hperm.cons _
    obtain ⟨o2, ho2, hN⟩ := SetN.new (pins := pins) (σ := σ) (H := H) (s := s) hP hw (H' := upd H D (DictO D o')) R' hq2 hp2 fun p hp => by
      rcases List.mem_cons.mp (pm.mem_iff.mp hp) with e | e
      · rw [e]
        exact lw.sqS ha
      · exact lw.sqS (hsq p e)
    rw [ho'] at ho2
    cases ho2
    exact hN upd_same
/-- {elt for target in iter if ..}, elt a tuple of ints -/
def tScT (gg : G) (w : World) (wi : TI) (g : TG) (tt : TT) (te : TE) (vs : List Nat) : TE := fun σ H Q => wi σ H fun J H1 => ∀ D, H1 D = none → ∃ W : Nat → Nat → Hp → Prop, (∃ m, W 0 m (upd H1 D (DictO D (newSetO w)))) ∧ ∀ i m H, W i m H →
  (J.stop i H ∧ Q (.ref D) H) ∨ (J.go i H ∧ ∃ Nx : Hp → Prop, (∀ H', Nx H' → ∃ m', m' < m ∧ W (i + 1) m' H') ∧ ∀ x H', J.yld i H x H' → g x (wipe σ vs) H' fun σ2 H2 => wipe σ2 vs = wipe σ vs ∧ tt σ2 H2 fun b H3 =>
    if b = true then te σ2 H3 fun y H4 => AddR gg D y H4 Nx else Nx H3)
theorem sc_tuples {pins : List (Addr × Obj)} {s : Shared} {σ : L2.St} {H : Hp} {Q : VK} {elt tg iter : Expr} {ifs : List Expr} {scope : Scope} {own : List (PySem.Str × Nat)} {pos pos' : Pos} {wi : TI} {gt : TG} {tt : TT} {te : TE} {use : Option (Value → Sem Unit)} {Qf : Value → Shared → Prop}
    (hP : X.prog = g.P) (hw : X.w = g.w) (hK : X.K = g.K) (hu : X.A.units + 2 < cLine)
    (hc : X.calm = true) (hN : X.N.Nodup) (I : Inv X pins σ H s) (hi : PI X tg iter wi) (ok : BlkOk X.N X.env.scope scope own)
    (hg : ∀ (s : Shared) (H : Hp) (C : Addr) (cl : List (PySem.Str × Addr)) (fp : List Addr), PG (X.blk s H scope (compEnvC scope cl C X.env) fp) tg gt) (ht : ∀ (s : Shared) (H : Hp) (C : Addr) (cl : List (PySem.Str × Addr)) (fp : List Addr), PTs (X.blk s H scope (compEnvC scope cl C X.env) fp) ifs tt)
    (he : ∀ (s : Shared) (H : Hp) (C : Addr) (cl : List (PySem.Str × Addr)) (fp : List Addr), PE (X.blk s H scope (compEnvC scope cl C X.env) fp) elt te) (hs : ∀ x, foldedSetIterable iter X.env x = pure x)
    (h : tScT g X.w wi gt tt te (own.map (·.2)) σ H Q)
    (hRR : ∀ D C s' m H', Inv X pins σ H' s' → Q (.ref D) H' → s'.heap.Ns C m → FpOk X pins H' C → compPost (model X.prog X.w) X.A X.xe use Qf (.ref D) C (.ok .next) s') :
    wpAny (model X.prog X.w) X.A (comprehension (.SetComp elt [⟨tg, iter, ifs, 0⟩] scope pos) scope X.env pos' (newSet (.type "set")) false (eval iter X.env) use) Qf X.xe s := by
  have hfree : ∀ y ∈ scope.names, y.2 = .free → ∃ c, X.env.cells.lookup y.1 = some c := fun y hy e => (ok.free y hy e).elim (fun k => I.ok.has _ (.inl k)) fun k => I.ok.has _ (.inr k)
  refine wpAny_comprehension_free (use := use) rfl hs (closure_ok hfree) ok.kind (fun y hy e => by rw [ok.uniq y hy, e]) (thn (hi.run pins s σ H _ I h) fun xv s1 hx => thn hx fun itv s2 h2 => ?_)
  obtain ⟨it, fp, tn, J, H2, e, I2, T, st2, f2, q⟩ := h2
  subst e
  refine newSet_ok (newEnv_comp ?_)
  have hDn : H2 s2.heap.objs.size = none := I2.hok.fresh (Nat.le_refl _)
  obtain ⟨W, ⟨m0, w0⟩, turn⟩ := q s2.heap.objs.size hDn
  -- the new set
  have hobj : (s2.heap.push (newSetO X.w)).get? s2.heap.objs.size = some (newSetO X.w) := Heap.get?_push_size _ rfl
  have I3 : Inv X pins σ (upd H2 s2.heap.objs.size (DictO s2.heap.objs.size (newSetO X.w))) { s2 with heap := s2.heap.push (newSetO X.w) } :=
    I2.laid (t' := s2.toks) (fun b o e => Heap.get?_push_of_some _ e) (Nat.le_refl _) ⟨hobj, ⟨_, hobj⟩, fun h1 h2 p k => k _ p⟩
  generalize hs3 : ({ s2 with heap := s2.heap.push (newSetO X.w) } : Shared) = s3 at I3
  have h3 : s3.heap = s2.heap.push (newSetO X.w) := by rw [← hs3]
  generalize hD : s2.heap.objs.size = D at hDn w0 turn I3 hobj
  generalize hH3 : upd H2 D (DictO D (newSetO X.w)) = H3 at I3 w0
  have f3 : ∀ b ∈ fp, FpOk X pins H3 b ∧ b < s3.heap.objs.size := fun b hb => by
    obtain ⟨o, e, _⟩ := T.obj _ _ st2 b hb
    have hlt := Heap.lt_size e
    refine ⟨⟨?_, (f2 b hb).2⟩, by rw [h3, Heap.size_push]; exact Nat.lt_succ_of_lt hlt⟩
    rw [← hH3, upd_ne (by rw [← hD]; exact Nat.ne_of_lt hlt)]
    exact (f2 b hb).1
  have st3 : tn 0 s3.heap := T.keep _ _ _ st2 fun b _ o e => by rw [h3]; exact Heap.get?_push_of_some _ e
  have I4 := block_start I3 ok hN f3
  have nfp : ∀ b ∈ fp, H3 b = none := fun b hb => (f3 b hb).1.1
  have pg := hg s3 H3 s3.heap.objs.size (cellsFrom (s3.heap.objs.size + 1) scope.names (cloFrom X.env.cells scope.names [])) fp
  have pt := ht s3 H3 s3.heap.objs.size (cellsFrom (s3.heap.objs.size + 1) scope.names (cloFrom X.env.cells scope.names [])) fp
  have pe := he s3 H3 s3.heap.objs.size (cellsFrom (s3.heap.objs.size + 1) scope.names (cloFrom X.env.cells scope.names [])) fp
  show codeAny _ _ (.compStart (.SetComp elt [⟨tg, iter, ifs, 0⟩] scope pos) 0 (.ref it) (.ref D) (compEnvC scope (cellsFrom (s3.heap.objs.size + 1) scope.names (cloFrom X.env.cells scope.names [])) s3.heap.objs.size X.env)) (compPost (model X.prog X.w) X.A X.xe use Qf (.ref D) s3.heap.objs.size) { s3 with heap := pushCells (s3.heap.push { cls := .type "dict", data := .dict #[] }) scope.names }
  generalize hce : compEnvC scope (cellsFrom (s3.heap.objs.size + 1) scope.names (cloFrom X.env.cells scope.names [])) s3.heap.objs.size X.env = ce at I4 pg pt pe ⊢
  have cL : ce.locals = s3.heap.objs.size := by subst hce; rfl
  generalize hs4 : ({ s3 with heap := pushCells (s3.heap.push { cls := .type "dict", data := .dict #[] }) scope.names } : Shared) = s4 at I4 ⊢
  have st4 : tn 0 s4.heap := T.keep _ _ _ st3 fun b _ o e => by rw [← hs4]; exact pushCells_keeps _ _ _ _ (Heap.get?_push_of_some _ e)
  have stat : ∀ {σ' : L2.St} {H' : Hp} {s' : Shared}, Inv (X.blk s3 H3 scope ce fp) [] σ' H' s' → (∀ b ∈ fp, H' b = none) → ∀ b ∈ fp, FpOk (X.blk s3 H3 scope ce fp) [] H' b := fun {σ' H' s'} I' hn b hb =>
    ⟨hn b hb, (I'.ok.exf b hb).1, I'.ok.exfs b hb, .inl hb, fun x c e => (I'.ok.exf b hb).2 x c e, fun p hp => absurd (show p ∈ ([] : List (Addr × Obj)) ++ [] from hp) (by simp)⟩
  have loop : codeAny (model X.prog X.w) X.A (.compLoop (.SetComp elt [⟨tg, iter, ifs, 0⟩] scope pos) 0 (.ref it) (.ref D) ce) (compPost (model X.prog X.w) X.A X.xe use Qf (.ref D) s3.heap.objs.size) s4 := by
    refine compLoopS_any (fun n s' => ∃ i H', Inv (X.blk s3 H3 scope ce fp) [] (wipe σ (own.map (·.2))) H' s' ∧ tn i s'.heap ∧ (∀ b ∈ fp, H' b = none) ∧ W i n H') ?_ m0 ⟨0, H3, I4, st4, nfp, w0⟩
    rintro n s5 ⟨i, H5, I5, st5, n5, w5⟩
    rcases turn i n H5 w5 with ⟨stop, qq⟩ | ⟨go, Nx, hNx, step⟩
    · refine thnF (T.done (X.blk s3 H3 scope ce fp) rfl rfl rfl hc i [] s5 _ H5 (fun _ _ => False) I5 (stat I5 n5) st5 stop) fun r s6 ⟨hr, I6⟩ => ?_
      subst hr
      have I7 : Inv X pins σ H5 s6 := I3.call' (ch := fp) I6.os I6.base I6.hok I6.bare fun b hb => ⟨(f3 b hb).1.2.2.2.1, (f3 b hb).1.2.1, (f3 b hb).1.2.2.2.2.1, (f3 b hb).1.2.2.2.2.2⟩
      have nC : H5 s3.heap.objs.size = none := by
        have z : H5 ce.locals = none := I6.free
        rwa [cL] at z
      obtain ⟨m, hn, _⟩ := I6.loc
      have hn : s6.heap.Ns ce.locals m := hn
      rw [cL] at hn
      exact hRR D s3.heap.objs.size s6 m H5 I7 qq hn (I3.fpOk (Nat.le_refl _) nC)
    · refine thnF (T.item (X.blk s3 H3 scope ce fp) rfl rfl rfl hc i [] s5 _ H5 (fun _ _ => False) I5 (stat I5 n5) st5 go) fun r s6 ⟨u, hr, h6⟩ => ?_
      subst hr
      refine thnF h6 fun _ s7 ⟨x, H7, I7, r7, y7, st7, n7⟩ => ?_
      have I7' := I7.pinned (stat I7 n7) (T.obj _ _ st7)
      refine thnF (pg.run _ s7 _ H7 x u _ I7' r7 (step x H7 y7)) fun _ s8 ⟨σ8, H8, I8, hw8, q8⟩ => ?_
      refine thnF (pt.run _ s8 σ8 H8 _ I8 q8) fun b s9 ⟨H9, I9, q9⟩ => ?_
      have fin : ∀ {s' : Shared} {H' : Hp}, Inv (X.blk s3 H3 scope ce fp) ([] ++ pinsAt fp s7.heap) σ8 H' s' → Nx H' → ∃ m, m < n ∧ ∃ i H', Inv (X.blk s3 H3 scope ce fp) [] (wipe σ (own.map (·.2))) H' s' ∧ tn i s'.heap ∧ (∀ b ∈ fp, H' b = none) ∧ W i m H' := fun {s' H'} I' nx => by
        obtain ⟨m', hm, w'⟩ := hNx H' nx
        have pin' : ∀ b ∈ fp, ∀ o, s7.heap.get? b = some o → s'.heap.get? b = some o ∧ H' b = none := fun b hb o e =>
          let z := I'.pin (b, o) (List.mem_append_right _ (List.mem_append_right _ (mem_pinsAt hb e)))
          ⟨z.1, z.2.1⟩
        refine ⟨m', hm, i + 1, H', (I'.unpinned (pins := [])).weak (by rw [← hw8, wipe_length]) (fun j v e => ?_), T.keep _ _ _ st7 fun b hb o e => (pin' b hb o e).1, fun b hb => ?_, w'⟩
        · rw [← hw8] at e
          exact (wipe_some e).1
        · obtain ⟨o, e, _⟩ := T.obj _ _ st7 b hb
          exact (pin' b hb o e).2
      cases b with
      | false =>
        simp only [Bool.false_eq_true, if_false] at q9 ⊢
        exact fin I9 q9
      | true =>
        simp only [if_true] at q9 ⊢
        refine thnF (pe.run _ s9 σ8 H9 _ I9 q9) fun z s10 ⟨yv, H10, I10, r10, ad⟩ => ?_
        exact set_add (X := X.blk s3 H3 scope ce fp) (g := g) hP hw hK hu I10 r10 ad fun s11 H11 I11 nx => fin I11 nx
  exact codeAny_compStart_set loop (T.self X.A 0 _ _ _ st4 loop)
theorem pe_scT {elt tg iter : Expr} {ifs : List Expr} {scope : Scope} {own : List (PySem.Str × Nat)} {pos : Pos} {wi : TI} {gt : TG} {tt : TT} {te : TE}
    (hP : X.prog = g.P) (hw : X.w = g.w) (hK : X.K = g.K) (hu : X.A.units + 2 < cLine) (hc : X.calm = true) (hN : X.N.Nodup) (hi : PI X tg iter wi) (ok : BlkOk X.N X.env.scope scope own)
    (hg : ∀ (s : Shared) (H : Hp) (C : Addr) (cl : List (PySem.Str × Addr)) (fp : List Addr), PG (X.blk s H scope (compEnvC scope cl C X.env) fp) tg gt) (ht : ∀ (s : Shared) (H : Hp) (C : Addr) (cl : List (PySem.Str × Addr)) (fp : List Addr), PTs (X.blk s H scope (compEnvC scope cl C X.env) fp) ifs tt)
    (he : ∀ (s : Shared) (H : Hp) (C : Addr) (cl : List (PySem.Str × Addr)) (fp : List Addr), PE (X.blk s H scope (compEnvC scope cl C X.env) fp) elt te) (hs : ∀ x, foldedSetIterable iter X.env x = pure x) :
    PE X (.SetComp elt [⟨tg, iter, ifs, 0⟩] scope pos) (tScT g X.w wi gt tt te (own.map (·.2))) := by
  refine ⟨fun pins s σ H Q I h => ?_⟩
  rw [eval_SetComp]
  refine sc_tuples hP hw hK hu hc hN I hi ok hg ht he hs h fun D C s' m H' I' q hn f => ⟨m, hn, fun h'' sb => ?_⟩
  obtain ⟨f0, f1, f2, f3, f4, f5⟩ := f
  exact ⟨.ref D, H', I'.turned (t' := s'.toks) (fun b o hb e => (sb.2 b hb).trans e) f0 f1 f3 f4 f5, rfl, q⟩
end
end K76
end

/-! text Sc2 -/
section
namespace K76
open PySem PySem.Spec PyProof.Rows L2
section
variable {g : G} {C : Cx1} {X : Cx} {bk : Bool} {sc sc0 : Scope} {cl : ClF} {k : Nat} {ih : Ih}
theorem fresh_set (g : G) {H : Hp} {D : Addr} (h : H D = some (DictO D (newSetO g.w))) : ∃ o es ep t, SetN g H [] D o es ep t := by
  have R := setTR_fresh (P := g.P) (w := g.w) (h := g.base.push (newSetO g.w)) (Heap.get?_push_size g.base rfl)
  refine ⟨newSetO g.w, #[], 0, _, ⟨h, ⟨rfl, rfl, rfl⟩, rfl, ?_, rfl, by decide, .inr ⟨[], [], rfl, .nil, fun p hp => (by cases hp), R.rows, R.tab, R.nd, R.plain, R.led, R.room⟩⟩⟩
  first
    | rfl
    | decide
theorem set_same {α : Type} {l : List α} {n : Nat} {a : α} (h : l[n]? = some a) : l.set n a = l := by
  apply List.ext_getElem?
  intro i
  by_cases hi : i = n
  · subst hi
    rw [List.getElem?_set_self (List.getElem?_eq_some_iff.mp h).1, h]
  · rw [List.getElem?_set_ne (Ne.symm hi)]
theorem rd_sc (Gd : Good g C X bk sc0 cl k) {tg it el : Expr} {ifs : List Expr} {σ : L2.St} {H : Hp} {Q : VK} (h : tE g cl (fun σ S => evLc C ih bk sc0 sc [⟨tg, it, ifs, 0⟩] (.set []) (lcSet ih sc el) σ S) σ H Q) :
    tScT g X.w (tI g cl (evSrc C ih bk sc0 tg it)) (tgG g C sc tg) (tT g cl0 (tsts ih true sc ifs)) (tE g cl0 (ih.e true sc el)) ((ownIx C.N sc).map (·.2)) σ H Q := by
  obtain ⟨ρ, σd, S, d, Sf, M, e, q⟩ := h
  obtain ⟨hb, e⟩ := grd_some e
  obtain ⟨src, S1, e1, e⟩ := bnd_some e
  obtain ⟨hf, e⟩ := grd_some e
  obtain ⟨S2, e2, e⟩ := opt_some e
  cases e
  rw [own_ix, Gd.w]
  refine ⟨ρ, σd, S, src, S1, M, e1, fun ρ1 H1 J p1 l1 M1 ok D hD => ?_⟩
  obtain ⟨ok', M'⟩ := lc_start hb Gd.lamB M1 ok hf hD (o := DictO D (newSetO g.w)) (ob := .set []) (fresh_set g upd_same)
  refine ⟨LcW g C ih sc tg ifs src (lcSet ih sc el S1.length) (ρ1 ++ [D]) (upd H1 D (DictO D (newSetO g.w))) _ _ Sf, ⟨5000, _, _, Pre.refl _, Le.refl _, M', e2⟩, fun i m H w => ?_⟩
  refine lc_turn (sc := sc) (EL := fun σ2 H Nx => tE g cl0 (ih.e true sc el) σ2 H fun y H4 => AddR g D y H4 Nx) (WW := fun σ2 => wipe σ2 (ixs C.N (compSc sc)) = wipe σ (ixs C.N (compSc sc)))
    ok' (src_weak e1) rfl (fun σ2 K2 => by rw [wipe_kept Gd.nd (fun x _ h => loc_comp h) (comp_ix hb) K2, wipe_twice])
    (fun ρ S S' H σ2d σ2 Nx hp hl M e nx => ?_)
    (fun ρ H hp hl R => lc_end M1 hD hp hl R fun ρ' H' v pp ll MM dd => q ρ' H' v (p1.trans pp) (l1.trans ll) MM dd) i m H w
  obtain ⟨dv, Sa, e3, e⟩ := bnd_some e
  obtain ⟨o, e6, e⟩ := opt_some e
  rw [nth_eq] at e6
  cases o with
  | set acc =>
    obtain ⟨e7, e⟩ := grd_some e
    obtain ⟨kx, e8, e⟩ := opt_some e
    obtain ⟨kss, e9, e⟩ := opt_some e
    obtain ⟨b, e10, e⟩ := opt_some e
    refine ⟨ρ, σ2d, S, dv, Sa, M, e3, fun ρ4 H4 y p4 l4 M4 d4 => ?_⟩
    obtain ⟨a, h1, h2⟩ := M4.rel.addr e6
    have ea := atD M1.rel.len (hp.trans p4) h1
    subst ea
    obtain ⟨o, es, ep, t, N⟩ := h2
    obtain ⟨xs, rfl, e11⟩ := intsD_some e8
    obtain ⟨p, vs', rfl, h3, h4⟩ := d4
    have e12 := allOf_ints e11 h4
    subst e12
    rw [memD_ints e8 e9] at e10
    cases e10
    refine ⟨p, kx, .tup xs, acc, kss, o, es, ep, t, rfl, h3, e8, N, e9, Nat.lt_of_succ_le (Nat.le_of_ble_eq_true e7), fun o' es' ep' t' N' => ?_⟩
    have lw : Le H4 (upd H4 a (DictO a o')) := le_write N.at_ trivial
    refine nx ρ4 _ p4 (l4.trans lw) ?_
    by_cases hm : kx ∈ kss
    · rw [decide_eq_true hm] at e
      cases e
      rw [if_pos hm] at N'
      have := M4.rel.set (od := .set acc) h1 N.at_ trivial ⟨o', es', ep', t', N'⟩
      rwa [set_same e6] at this
    · rw [decide_eq_false hm] at e
      cases e
      rw [if_neg hm] at N'
      rw [setN_eq]
      exact M4.rel.set h1 N.at_ trivial ⟨o', es', ep', t', N'⟩
  | _ => cases e
theorem e_sc (Gd : Good g C X bk sc0 cl k) (F : Facts g C.P) (no : IhNo ih) (A : IhAll g C k ih) {el : Expr} {gs : List Comprehension} {pos : Pos} : PE X (.SetComp el gs sc pos) (tE g cl (stepE C ih bk sc0 (.SetComp el gs sc pos))) := by
  have I := A.e X bk sc0 cl Gd
  have hst : stepE C ih bk sc0 (.SetComp el gs sc pos) = fun σ S => match gs with
    | [_] => evLc C ih bk sc0 sc gs (.set []) (lcSet ih sc el) σ S
    | _ => none := rfl
  have nv : (∀ σ S, stepE C ih bk sc0 (.SetComp el gs sc pos) σ S = none) → PE X (.SetComp el gs sc pos) (tE g cl (stepE C ih bk sc0 (.SetComp el gs sc pos))) := fun h => PE.imp never_e fun σ H Q q => tE_none h q
  by_cases h1 : ∃ g0, gs = [g0]
  · obtain ⟨g0, rfl⟩ := h1
    rw [hst]
    show PE X (.SetComp el [g0] sc pos) (tE g cl fun σ S => evLc C ih bk sc0 sc [g0] (.set []) (lcSet ih sc el) σ S)
    have nv2 : (∀ σ S, evLc C ih bk sc0 sc [g0] (.set []) (lcSet ih sc el) σ S = none) → PE X (.SetComp el [g0] sc pos) (tE g cl fun σ S => evLc C ih bk sc0 sc [g0] (.set []) (lcSet ih sc el) σ S) := fun h => PE.imp never_e fun σ H Q q => tE_none h q
    cases hb : blkChk C.N sc0 sc with
    | false => exact nv2 fun σ S => blk_none hb _ _ _ _ _
    | true =>
      have ok := blkOk_of Gd hb
      rcases lc_cases (C := C) (ih := ih) [g0] with ⟨tg, it, ifs, h⟩ | ⟨tg, it, ifs, tg1, it1, ifs1, h⟩ | h
      · cases h
        by_cases hs : ∃ es j p, it = .Set es j p
        · obtain ⟨es, j, p, rfl⟩ := hs
          exact nv2 fun σ S => set_none1 no _ _ _ _
        · refine PE.imp (pe_scT Gd.P Gd.w Gd.K (by have := Gd.room.un; omega) Gd.calm (by rw [Gd.N]; exact Gd.nd) (i_src Gd F no I tg it) ok (pcs Gd A tg ifs).pg (pcs Gd A tg ifs).pt (pc_e Gd A el) (hsE hs)) fun σ H Q q => rd_sc Gd q
      · cases h
      · exact nv2 fun σ S => h _ _ _ _ _ _ _
  · refine nv fun σ S => ?_
    show (match gs with
      | [_] => evLc C ih bk sc0 sc gs (.set []) (lcSet ih sc el) σ S
      | _ => none) = none
    split
    · exact absurd ⟨_, rfl⟩ h1
    · rfl
theorem sets_ok (g : G) (C : Cx1) (k : Nat) : SetsOk g C k :=
  ⟨fun X bk sc cl Gd => b_set Gd.calm Gd.P Gd.w Gd.K Gd.room, fun X bk sc0 cl ih Gd F no A el gs sc pos => e_sc Gd F no A⟩
end
end K76
end

/-! text Fun -/
section
namespace K76
open PySem PySem.Spec PyProof.Rows L2
/-! ### what a def is in the heap -/
structure DefAt (g : G) (d : Def1) (f : Addr) : Prop where
  fn : ∃ (name qual : Str) (params : Arguments) (dV kV doc pm cdv ct oc : Value) (an od : Option Addr) (osl : Array (Option Value)), g.K.lookup f = some ⟨oc, od, .func (PySem.W.fnOf name qual params d.body d.scope dV kV doc pm an cdv ct), osl⟩ ∧ PySem.W.codeIn g.K cdv qual = true ∧
    d.qual = qual ++ ".<locals>." ∧ plainA params = true ∧ d.ps = argNames params ∧
    ((dV = .none ∧ d.dfl = []) ∨ ∃ (T : Addr) (o : Obj) (items : Array Value) (n : Nat), dV = .ref T ∧ g.K.lookup T = some o ∧ o.data = .seq items n ∧ ∀ ρ H c, RL (DU g ρ H c) d.dfl items.toList) ∧
    (d.lam = true → ∃ c P, cdv = .ref c ∧ LamX.TabB g.base g.mg c P ∧ (P, d.qual ++ "<lambda>") ∈ g.T ∧ ∀ p ∈ g.T, p.1 = P → p.2 = d.qual ++ "<lambda>")
theorem bindD_len {α : Type} {ps : List Str} {dfl pos q : List α} {kws : List (Str × α)} (h : bindD ps dfl pos kws = some q) : q.length = ps.length := by
  obtain ⟨h1, h⟩ := grd_some h
  obtain ⟨t, h2, h⟩ := opt_some h
  cases h
  obtain ⟨h1, _⟩ := Bool.and_eq_true_iff.mp h1
  have h1 := Nat.le_of_ble_eq_true h1
  rw [List.length_append, (kwGo_at h2).1, List.length_drop]
  omega
theorem eqNames_iff : ∀ {a b : List Str}, eqNames a b = true → a = b
  | [], [], _ => rfl
  | [], _ :: _, h => by cases h
  | _ :: _, [], h => by cases h
  | x :: r, y :: q, h => by
    have h : (match eqS x y with | true => eqNames r q | false => false) = true := h
    cases hx : eqS x y with
    | false => rw [hx] at h; cases h
    | true =>
      rw [hx] at h
      rw [eqS_iff.mp hx, eqNames_iff h]
theorem isLoc_iff {sc : Scope} {x : Str} (h : isLoc sc x = true) : sc.names.lookup x = some .local ∨ sc.names.lookup x = some .cell := by
  unfold isLoc at h
  rw [look_eq] at h
  split at h
  · rename_i e
    exact .inl e
  · rename_i e
    exact .inr e
  · cases h
structure DefS (d : Def1) : Prop where
  fs : FnScope d.N d.ps d.scope
  ndbg : ∀ x ∈ d.N, (x == ("__debug__" : Str)) = false ∧ (x == ("__classdict__" : Str)) = false
  caps : ∀ x ∈ d.caps, d.scope.names.lookup x = some .cell
  lam : d.lam = false → d.caps = []
  dfl : d.dfl.length ≤ d.ps.length
theorem defOk_s {d : Def1} (h : defOk d = true) : DefS d := by
  unfold defOk at h
  simp only [Bool.and_eq_true] at h
  obtain ⟨⟨⟨⟨⟨⟨⟨⟨⟨⟨h1, h2⟩, h3⟩, h4⟩, h5⟩, h6⟩, h7⟩, h8⟩, h9⟩, h10⟩, h11⟩ := h
  have all : ∀ {α : Type} {p : α → Bool} {l : List α}, l.all p = true → ∀ x ∈ l, p x = true := fun h x hx => List.all_eq_true.mp h x hx
  refine ⟨⟨?_, by simpa using h4, by simpa using h5, nodupS_iff h1, eqNames_iff h2, fun x hx => isLoc_iff (all h6 x hx), fun y hy z => ?_⟩, fun x hx => ?_, fun x hx => ?_, fun z => ?_, Nat.le_of_ble_eq_true h11⟩
  · split at h3
    · assumption
    · cases h3
  · have := all h7 y hy
    rw [z] at this
    cases this
  · have := all h8 x hx
    obtain ⟨a, b⟩ := Bool.and_eq_true_iff.mp this
    have a : eqS x "__debug__" = false := by simpa using a
    have b : eqS x "__classdict__" = false := by simpa using b
    exact ⟨beq_eq_false_iff_ne.mpr (eqS_ne a), beq_eq_false_iff_ne.mpr (eqS_ne b)⟩
  · have := all h9 x hx
    rw [look_eq] at this
    split at this
    · assumption
    · cases this
  · rw [z] at h10
    have : d.caps.isEmpty = true := by simpa using h10
    simpa using this
theorem scR_refl (sc : Scope) : ScR sc sc where
  own := fun x h => by
    unfold isOwn at h
    rw [look_eq] at h
    split at h
    · rename_i k e
      cases k <;> first | exact .inl e | exact .inr (.inl e) | exact .inr (.inr e) | cases h
    · cases h
  glo := fun x h => by
    unfold isGlo at h
    rw [look_eq] at h
    split at h
    · assumption
    · cases h
  loc := fun x h => by
    rcases isLoc_iff h with e | e
    · exact .inl e
    · exact .inr e
  cf := fun x h => h
/-- stores keep what is known of own cells -/
theorem up_clOf {C : Cx1} {X : Cx} (hN : X.N = C.N) (nd : C.N.Nodup) {sc : Scope} {c0 : Cl} : ClUp C sc (clOf X c0 C.caps) := by
  intro σd σ i x d v hx hl hc c w h
  rcases h with h | ⟨x', i', d', h1, h2, h3, h4, h5⟩
  · exact .inl h
  · refine .inr ⟨x', i', d', h1, h2, h3, ?_, ?_⟩
    · rw [List.getElem?_set_ne]
      · exact h4
      · rintro rfl
        rw [hN] at h3
        rw [hx] at h3
        cases h3
        rw [hc (hasS_iff.mpr h1)] at h4
        cases h4
    · rw [List.getElem?_set_ne]
      · exact h5
      · rintro rfl
        rw [hN] at h3
        rw [hx] at h3
        cases h3
        rw [hc (hasS_iff.mpr h1)] at h4
        cases h4
theorem get_none {h : Heap} {b : Addr} (hb : h.objs.size ≤ b) : h.get? b = none := by
  cases q : h.get? b with
  | none => rfl
  | some o => exact absurd (Nat.lt_of_lt_of_le (Heap.lt_size q) hb) (Nat.lt_irrefl _)
theorem start_len {N : List Str} {ds : List D} (h : ds.length ≤ N.length) : (startD N ds).length = N.length := by
  unfold startD
  rw [List.length_append, List.length_map, List.length_replicate]
  omega
theorem start_env {g : G} {c : Cl} {ρ : List Addr} {H : Hp} {N : List Str} {ds : List D} {vs : List V} (h : DVs g ρ H c ds vs) : EnvR g c ρ H (startD N ds) (L2.start N vs) := by
  have hl := h.length
  refine ⟨?_, fun i d e => ?_⟩
  · unfold startD L2.start
    rw [List.length_append, List.length_append, List.length_map, List.length_map, List.length_replicate, List.length_replicate, hl]
  · have hi : i < ds.length := by
      unfold startD at e
      by_cases hi : i < ds.length
      · exact hi
      · rw [List.getElem?_append_right (by rw [List.length_map]; omega), List.getElem?_replicate] at e
        split at e <;> cases e
    unfold startD at e
    rw [List.getElem?_append_left (by rw [List.length_map]; exact hi), List.getElem?_map] at e
    cases hd : ds[i]? with
    | none => rw [hd] at e; cases e
    | some d' =>
      rw [hd] at e
      cases e
      obtain ⟨v, h1, h2⟩ := h.get hd
      refine ⟨v, ?_, h2⟩
      unfold L2.start
      rw [List.getElem?_append_left (by rw [List.length_map, ← hl]; exact hi), List.getElem?_map, h1]
      rfl
section
variable {g : G} {P : Program} {w : World} {H H' : Hp} {c : Cl} {s : Shared} {h0 : Heap} {fs : List Addr}
theorem trk_un (k : CellsAt c s H') (hn : ∀ b v, c b v → h0.get? b = none) (u : Un fs [] H H' h0 s.heap) : Un fs [] H (trkH c s H') h0 s.heap := by
  refine ⟨u.keep, u.slot, fun b o e n hx => ?_, u.there, fun b xs e => trk_keep k (u.tups b xs e), fun b o v e => trk_keep k (u.frzs b o v e), fun b ps e => ?_⟩
  · rw [trkH_out]
    · exact u.free b o e n hx
    · rintro ⟨v, hv⟩
      rw [hn b v hv] at e
      cases e
  · obtain ⟨more, h⟩ := u.tbls b ps e
    exact ⟨more, trk_keep k h⟩
end
/-! ### a def called -/
abbrev CXn : CXT := fun _ _ _ _ _ _ => False
section
variable {g : G} {P : Prog1} {call : CallT} {n j : Nat}
abbrev defC (P : Prog1) (call : CallT) (d : Def1) : Cx1 := ⟨P, call, d.N, d.scope, d.caps, d.lam, d.qual⟩
theorem def_call {d : Def1} {f : Addr} (hat : DefAt g d f) (hok : defOk d = true) (B : BaseOk g (defC P call d) (2 * j + 1) j) {pos ds : List D} {kws : List (Str × D)} {S S1 : Sto} {r : D} {A : Around} {outer : List Env} {s : Shared} {H : Hp} {ρ : List Addr} {vs zs : List V} {us ws : List Value}
    (hb : bindD d.ps d.dfl pos kws = some ds) (e : callBody P call n d ds S = some (r, S1)) (hr : Room (2 * (j + 1)) A) (e0 : Env0 g.P g.w g.K g.mg g.base A outer s H) (R : Rel g bot ρ S H) (hp : DVs g ρ H bot pos vs) (hz : DVs g ρ H bot (kws.map (·.2)) zs) (rv : Vals vs us) (rz : Vals zs ws) :
    codeAny (model g.P g.w) A (.call (.ref f) ⟨us, (kws.map (·.1)).zip ws⟩) (RetK g outer s H ρ r S1) s := by
  obtain ⟨name, qual, params, dV, kV, doc, pm, cdv, ct, oc, an, od, osl, lk, hcd, hq, hpl, hps, hdf, hlam⟩ := hat.fn
  have DS := defOk_s hok
  have KX : g.K.In s.heap := e0.mod.kin.keeps fun b o e => (e0.bs b o e).1
  have lim : s.heap.NoLimit := e0.mod.nolimit.keeps fun b o e => (e0.bs b o e).1
  -- the arguments
  obtain ⟨dv, hdv, hds⟩ : ∃ dv : List Value, RL (DU g ρ H bot) d.dfl dv ∧ ∀ (M : Model) (A : Around) (E : Value → Shared → Prop) (Q : Option (Array Value) → Shared → Prop), (∀ o : Option (Array Value), (o.getD #[]).toList = dv → Q o s) → wpAny M A (seqItems? dV) Q E s := by
    rcases hdf with ⟨rfl, hd⟩ | ⟨T, o, items, n, rfl, ho, hd, hrl⟩
    · refine ⟨[], by rw [hd]; exact .nil, fun M A E Q h => ?_⟩
      exact wpAny_pure (h none rfl)
    · exact ⟨items.toList, hrl _ _ _, fun M A E Q h => wpAny_seqItems (KX _ _ ho) hd (h (some items) rfl)⟩
  obtain ⟨rs, hbv, hrl⟩ := bind_rel hdv (RL.of hp rv) (KL.of hz rz) hb
  obtain ⟨vb, hvb, rvb⟩ := hrl.back
  have hlen : vb.length = d.ps.length := by rw [← hvb.length, bindD_len hb]
  obtain ⟨names, dd, bb, hpar, rfl⟩ := plainA_eq hpl
  have hnm : d.ps = names.map (·.arg) := by rw [hps, hpar]; rfl
  have ndP : (names.map (·.arg)).Nodup := by
    rw [← hnm, ← DS.fs.pre]
    exact DS.fs.nd.sublist (List.take_sublist _ _)
  have hbt : BindsTo s (PySem.W.fnOf name qual params d.body d.scope dV kV doc pm an cdv ct) ⟨us, (kws.map (·.1)).zip ws⟩ (d.ps.zip rs) := by
    have hdl : dv.length ≤ names.length := by
      have h1 := hdv.length
      have h2 := DS.dfl
      rw [hnm, List.length_map] at h2
      omega
    rw [hnm] at hbv ⊢
    exact bind_wp (fd := PySem.W.fnOf name qual params d.body d.scope dV kV doc pm an cdv ct) ⟨_, _, hpar⟩ hds ndP hdl hbv
  have hkind : ∀ y ∈ d.ps.zip rs, d.scope.names.lookup y.1 = some .local ∨ (d.scope.names.lookup y.1 = some .cell ∧ ((cellsFrom (s.heap.objs.size + 1) d.scope.names []).lookup y.1).isSome = true) := fun ⟨m, v⟩ hy => by
    rcases DS.fs.par m (List.of_mem_zip hy).1 with q | q
    · exact .inl q
    · exact .inr ⟨q, PySem.W.cellsFrom_some _ _ _ (.inl q)⟩
  refine codeAny_call_function hr.depth (KX _ _ lk) rfl DS.fs.co DS.fs.gen rfl (PySem.W.codeRec_of KX hcd) (hbt _ _ _ _ ?_)
  refine wpAny_newFunctionEnv_cells DS.fs.kind hkind fun env he s1 x => ?_
  subst he
  refine ⟨lim.keeps x.toInCall.keep, codeAny_func ?_⟩
  have I := (inv_start (CX := CXn) (E := fun _ _ _ => False) (qual := qual) (f := f) (cd := cdv) DS.fs hr.hd e0 hlen rvb x).wish fun _ _ => False
  generalize hX : (cxOf CXn g.P g.w g.K g.mg g.base d.N qual d.scope f cdv A outer s H fun _ _ _ => False).wish (fun _ _ => False) = X at I
  have xP : X.prog = g.P := by rw [← hX] <;> rfl
  have xw : X.w = g.w := by rw [← hX] <;> rfl
  have xK : X.K = g.K := by rw [← hX] <;> rfl
  have xN : X.N = d.N := by rw [← hX] <;> rfl
  have xenv : X.env = envOfC qual d.scope s.heap.objs.size f cdv := by rw [← hX] <;> rfl
  have xs0 : X.s_0 = s := by rw [← hX] <;> rfl
  have xfn : X.fn = fun _ => true := by rw [← hX] <;> rfl
  have xA : X.A = A.deeper (envOfC qual d.scope s.heap.objs.size f cdv) := by rw [← hX] <;> rfl
  have cellAt : ∀ {σ1 : Env1} {σ : L2.St} {b : Addr} {v : V}, clOf X bot d.caps σ1 σ b v → s.heap.objs.size ≤ b := fun {σ1 σ b v} h => by
    rcases h with h | ⟨y, i, dd, _, h2, _⟩
    · exact h.elim
    · have := I.ok.cab y b (by rw [xfn]) h2
      rwa [xs0] at this
  have Gd : Good g (defC P call d) X false d.scope (clOf X bot d.caps) (2 * j + 1) := by
    refine ⟨xP, xw, xK, by rw [← hX] <;> rfl, by rw [← hX] <;> rfl, by rw [← hX] <;> rfl, xN, DS.fs.nd, by rw [← hX] <;> rfl, by rw [xA]; exact hr.deeper _, by rw [xenv]; exact scR_refl _, fun y _ => .inl (by rw [xfn]), ?_, fun z σd σ c v h => ?_, DS.ndbg, fun _ z _ => ?_⟩
    · intro pins σ H' s' σd b v J h
      rcases h with h | ⟨y, i, dd, h1, h2, h3, h4, h5⟩
      · exact h.elim
      · have hb : s.heap.objs.size ≤ b := by
          have := J.ok.cab y b (by rw [xfn]) h2
          rwa [xs0] at this
        have hcy : X.env.scope.names.lookup y = some .cell := by rw [xenv]; exact DS.caps y h1
        refine ⟨J.freeC y b h2, fun z => ?_, ?_, ?_⟩
        · rcases List.mem_cons.mp (J.stkSub b z) with e | e
          · exact J.cne y b h2 e
          · obtain ⟨_, o, ho, _⟩ := J.ok.funs.mem e
            rw [xs0] at ho
            exact absurd (Nat.lt_of_lt_of_le (Heap.lt_size ho) hb) (Nat.lt_irrefl _)
        · refine get_none (Nat.le_trans ?_ hb)
          have := J.ok.bsz
          rwa [xs0] at this
        · obtain ⟨m, hn, hl⟩ := J.loc
          obtain ⟨u, r1, hk⟩ := hl i y v h3 h5 (.inr (.inl hcy))
          refine ⟨u, r1, ?_⟩
          rcases hk with ⟨hk, _⟩ | ⟨_, c', hc', hi⟩
          · have hk : X.env.scope.names.lookup y = some .local := hk
            rw [hcy] at hk
            cases hk
          · rw [h2] at hc'
            cases hc'
            exact hi
    · rcases h with h | ⟨y, i, dd, h1, _⟩
      · exact h
      · have hc : d.caps = [] := DS.lam z
        have h1 : y ∈ d.caps := h1
        rw [hc] at h1
        cases h1
    · obtain ⟨c, Pt, e1, e2, e3, e4⟩ := hlam z
      refine ⟨⟨c, Pt, by rw [← hX]; exact e2, by rw [xenv]; exact e1, e3, e4⟩, by rw [xenv]; exact hq.symm, fun _ _ => rfl⟩
  have up : ClUp (defC P call d) d.scope (clOf X bot d.caps) := up_clOf (C := defC P call d) xN DS.fs.nd
  have M0 : Sim g (clOf X bot d.caps (startD d.N ds) (L2.start d.N vb)) ρ S H (startD d.N ds) (L2.start d.N vb) := ⟨R.clm fun _ _ z => z.elim, start_env (hvb.mono (Pre.refl _) (Le.refl _) fun _ _ z => z.elim)⟩
  have hsl : ρ.length = S.length := R.len
  -- the end
  have fin : ∀ {σ' : L2.St} {H1 H' : Hp} {s' : Shared} {v : V} {u : Value} {ρ' : List Addr} {S' : Sto} {r : D}, Inv X [] σ' H1 s' → Un (frs outer) [] H H' s.heap s'.heap → HOk g.P g.w H' s'.heap → RelV v u → Pre ρ ρ' → Le H H' → Rel g bot ρ' S' H' → DV g ρ' H' bot r v →
      RetK g outer s H ρ r (cutSt S.length r S') (.ok (.ret u)) s' := by
    intro σ' H1 H' s' v u ρ' S' r J un ok rv p l R' hd
    obtain ⟨ρ2, p2, R2, d2⟩ := cut_ok hsl p R' hd
    exact ⟨v, H', by rw [← xs0]; exact J.os, J.bare, un, ok, rv, ρ2, p2, l, R2, d2⟩
  have unOf : ∀ {σ' : L2.St} {H' : Hp} {s' : Shared}, Inv X [] σ' H' s' → Un (frs outer) [] H H' s.heap s'.heap := fun {σ' H' s'} J => by
    have := J.base
    rw [← hX] at this
    exact this
  have okOf : ∀ {σ' : L2.St} {H' : Hp} {s' : Shared}, Inv X [] σ' H' s' → HOk g.P g.w H' s'.heap := fun {σ' H' s'} J => by
    rw [← xP, ← xw]
    exact J.hok
  have body : wpAny (model g.P g.w) (A.deeper (envOfC qual d.scope s.heap.objs.size f cdv)) (execs d.body (envOfC qual d.scope s.heap.objs.size f cdv)) (fun fl s' => RetK g outer s H ρ r S1 (.ok (.ret (match fl with | .ret v => v | _ => .none))) s') (fun _ _ => False) s1 := by
    rw [← xP, ← xw, ← xA, ← xenv]
    have noE : X.xe = fun _ _ => False := by rw [← hX] <;> rfl
    unfold callBody at e
    cases hl : d.lam with
    | false =>
      rw [hl] at e
      obtain ⟨o, p, e1, e2⟩ := bnd_some e
      have h := (run_ss B Gd (by rw [xenv]; rfl) up n d.body).run [] s1 (L2.start d.N vb) H { nx := fun σ' H' => o = .nx ∧ ∃ ρ', Pre ρ ρ' ∧ Le H H' ∧ Rel g bot ρ' p.2 H', rt := fun v H' => ∃ d', o = .ret d' ∧ ∃ ρ', Pre ρ ρ' ∧ Le H H' ∧ Rel g bot ρ' p.2 H' ∧ DV g ρ' H' bot d' v } I
        ⟨ρ, startD d.N ds, S, o, p.1, p.2, M0, by rw [← hl] at e1; exact e1, fun z ρ' H' σ' p1 l1 _ M1 => ⟨z, ρ', p1, l1, M1.rel.clm fun c v z => Gd.lamB hl _ _ _ _ z⟩, fun d' z ρ' H' σ' v p1 l1 _ M1 d1 => ⟨d', z, ρ', p1, l1, M1.rel.clm (fun c v z => Gd.lamB hl _ _ _ _ z), d1.mono (Pre.refl _) (Le.refl _) fun c v z => Gd.lamB hl _ _ _ _ z⟩⟩
      rw [noE] at h
      refine thn h fun fl s' hs => ?_
      cases fl with
      | next =>
        obtain ⟨σ', H', J, rfl, ρ', p1, l1, R1⟩ := hs
        cases e2
        exact fin (v := .non) J (unOf J) (okOf J) rfl p1 l1 R1 rfl
      | ret u =>
        obtain ⟨v, σ', H', J, rv, d', rfl, ρ', p1, l1, R1, d1⟩ := hs
        cases e2
        exact fin J (unOf J) (okOf J) rv p1 l1 R1 d1
      | brk =>
        obtain ⟨_, _, _, q⟩ := hs
        exact False.elim q
      | cont =>
        obtain ⟨_, _, _, q⟩ := hs
        exact False.elim q
    | true =>
      rw [hl] at e
      obtain ⟨ss, ex, e1, e⟩ := bnd_some e
      obtain ⟨o, p, e2, e⟩ := bnd_some e
      cases o with
      | ret _ => cases e
      | nx =>
        obtain ⟨r', Sr, e3, e⟩ := bnd_some e
        cases e
        obtain ⟨rp, hbody⟩ := lastRet_eq e1
        rw [hbody]
        refine execs_app ?_
        have h := (run_ss B Gd (by rw [xenv]; rfl) up n ss).run [] s1 (L2.start d.N vb) H { nx := fun σ' H' => ∃ ρ', Pre ρ ρ' ∧ Le H H' ∧ Sim g (clOf X bot d.caps p.1 σ') ρ' p.2 H' p.1 σ', rt := fun v H' => False } I
          ⟨ρ, startD d.N ds, S, .nx, p.1, p.2, M0, by rw [← hl] at e2; exact e2, fun _ ρ' H' σ' p1 l1 _ M1 => ⟨ρ', p1, l1, M1⟩, fun d' z => by cases z⟩
        rw [noE] at h
        refine thn h fun fl s' hs => ?_
        cases fl with
        | next =>
          obtain ⟨σ', H', J, ρ', p1, l1, M1⟩ := hs
          have h2 := run_e ((run_all B n).1.e X false d.scope (clOf X bot d.caps) Gd) J M1 (a := ex) (S1 := Sr) (d := r) (by rw [← hl] at e3; exact e3)
          rw [noE] at h2
          refine wpAny_execs_cons (wpAny_Return_some (thn h2 fun u s2 ⟨v, H2, ρ2, J2, rv2, p2, l2, M2, d2⟩ => ?_))
          have kc := Gd.cells (σd := p.1) J2
          have mv := trk_mv kc
          exact fin J2 (trk_un kc (fun b v h => get_none (cellAt h)) (unOf J2)) (trk_hok kc (okOf J2)) rv2 (p1.trans p2) ((l1.trans l2).trans (trk_le kc)) (M2.rel.mv mv) (DV.mv mv _ d2)
        | ret u =>
          obtain ⟨_, _, _, _, _, q⟩ := hs
          exact False.elim q
        | brk =>
          obtain ⟨_, _, _, q⟩ := hs
          exact False.elim q
        | cont =>
          obtain ⟨_, _, _, q⟩ := hs
          exact False.elim q
  exact wpAny_mono body (fun _ _ h => h) fun _ _ h => h.elim
end
end K76
end

/-! text Lamc -/
section
namespace K76
open PySem PySem.Spec PyProof.Rows L2
/-! ### a lambda called -/
structure LamS1 (l : Lam) : Prop where
  par : ∃ names, l.params = ⟨[], names, none, [], [], none, []⟩
  kind : l.scope.kind = .function
  co : l.scope.isCoroutine = false
  gen : l.scope.isGenerator = false
  loc : ∀ y ∈ l.scope.names, y.2 = .local → y.1 ∈ argNames l.params
  nocell : ∀ y ∈ l.scope.names, y.2 ≠ .cell
  free : ∀ y ∈ l.scope.names, y.2 = .free → l.scope.names.lookup y.1 = some .free
  arg : ∀ x ∈ argNames l.params, l.scope.names.lookup x = some .local
  nd : (lamN l).Nodup
  ndbg : ∀ x ∈ lamN l, (x == ("__debug__" : Str)) = false ∧ (x == ("__classdict__" : Str)) = false
theorem lamOk_s {l : Lam} (h : lamOk l = true) : LamS1 l := by
  unfold lamOk at h
  simp only [Bool.and_eq_true] at h
  obtain ⟨⟨⟨⟨⟨⟨⟨⟨h1, h2⟩, h3⟩, h4⟩, h5⟩, h6⟩, h7⟩, h8⟩, h9⟩ := h
  have all : ∀ {α : Type} {p : α → Bool} {l : List α}, l.all p = true → ∀ x ∈ l, p x = true := fun h x hx => List.all_eq_true.mp h x hx
  refine ⟨?_, ?_, by simpa using h4, by simpa using h5, fun y hy z => ?_, fun y hy z => ?_, fun y hy z => ?_, fun x hx => isPlain_iff.mp (all h7 x hx), nodupS_iff h8, fun x hx => ?_⟩
  · obtain ⟨names, d, b, e1, rfl⟩ := plainA_eq h1
    rw [e1] at h2
    have : b = [] := by simpa using h2
    subst this
    exact ⟨names, e1⟩
  · split at h3
    · assumption
    · cases h3
  · have := all h6 y hy
    rw [z] at this
    exact hasS_iff.mp this
  · have := all h6 y hy
    rw [z] at this
    cases this
  · have := all h6 y hy
    rw [z] at this
    have this : (match look y.1 l.scope.names with | some .free => true | _ => false) = true := this
    rw [look_eq] at this
    split at this
    · assumption
    · cases this
  · have := all h9 x hx
    obtain ⟨a, b⟩ := Bool.and_eq_true_iff.mp this
    have a : eqS x "__debug__" = false := by simpa using a
    have b : eqS x "__classdict__" = false := by simpa using b
    exact ⟨beq_eq_false_iff_ne.mpr (eqS_ne a), beq_eq_false_iff_ne.mpr (eqS_ne b)⟩
section
variable {g : G} {P : Prog1} {call : CallT} {n j : Nat}
abbrev lamC (P : Prog1) (call : CallT) (l : Lam) : Cx1 := ⟨P, call, lamN l, l.scope, [], true, l.qual⟩
open Classical in
/-- the captured cells are let go -/
noncomputable def untr (cells : List (Str × Addr)) (H : Hp) : Hp := fun b => if ∃ x, cells.lookup x = some b then none else H b
open Classical in
/-- .. and locked again, as they stood -/
noncomputable def retr (cells : List (Str × Addr)) (H H' : Hp) : Hp := fun b => if ∃ x, cells.lookup x = some b then H b else H' b
theorem untr_in {cells : List (Str × Addr)} {H : Hp} {b : Addr} (h : ∃ x, cells.lookup x = some b) : untr cells H b = none := if_pos h
theorem untr_out {cells : List (Str × Addr)} {H : Hp} {b : Addr} (h : ¬ ∃ x, cells.lookup x = some b) : untr cells H b = H b := if_neg h
theorem retr_in {cells : List (Str × Addr)} {H H' : Hp} {b : Addr} (h : ∃ x, cells.lookup x = some b) : retr cells H H' b = H b := if_pos h
theorem retr_out {cells : List (Str × Addr)} {H H' : Hp} {b : Addr} (h : ¬ ∃ x, cells.lookup x = some b) : retr cells H H' b = H' b := if_neg h
theorem lam_call {l : Lam} {caps ds : List D} {f : Addr} (B : BaseOk g (lamC P call l) (2 * j + 1) j) {S S1 : Sto} {r : D} {A : Around} {outer : List Env} {s : Shared} {H : Hp} {ρ : List Addr} {vs : List V} {us : List Value}
    (e : callLam P call n l caps ds S = some (r, S1)) (hr : Room (2 * (j + 1)) A) (e0 : Env0 g.P g.w g.K g.mg g.base A outer s H) (R : Rel g bot ρ S H) (hf : DV g ρ H bot (.lam l caps) (.ref f)) (hp : DVs g ρ H bot ds vs) (rv : Vals vs us) :
    codeAny (model g.P g.w) A (.call (.ref f) ⟨us, []⟩) (RetK g outer s H ρ r S1) s := by
  obtain ⟨hc, e⟩ := grd_some e
  obtain ⟨hc, hcf⟩ := Bool.and_eq_true_iff.mp hc
  obtain ⟨hc, hlen⟩ := Bool.and_eq_true_iff.mp hc
  have hcf : caps.length = (freeOf l.scope).length := Nat.eq_of_beq_eq_true hcf
  have LS := lamOk_s hc
  have hlen : ds.length = (argNames l.params).length := Nat.eq_of_beq_eq_true hlen
  obtain ⟨rd, Sr, e1, e⟩ := bnd_some e
  cases e
  obtain ⟨names, hpar⟩ := LS.par
  have hargs : argNames l.params = names.map (·.arg) := by rw [hpar]; rfl
  obtain ⟨a, vc, ea, LA, hcaps⟩ := hf
  cases ea
  obtain ⟨o, cells, c', oc, pm, ctv, uc, h1, h2, h3, h4, h5, h6, h7⟩ := LA.at_
  have nolim : s.heap.NoLimit := e0.mod.nolimit.keeps fun b o e => (e0.bs b o e).1
  have hof : s.heap.get? f = some o := (e0.hok f _ h1).1
  have hoc : s.heap.get? c' = some oc := (e0.hok c' _ h3).1
  obtain ⟨cvs, tk, hcd, hcv⟩ := h4
  -- a captured cell
  have capt : ∀ {b : Addr}, (∃ x, cells.lookup x = some b) → ∃ (x : Str) (i : Nat) (v : V) (ob : Obj) (u : Value), cells.lookup x = some b ∧ (freeOf l.scope)[i]? = some x ∧ vc[i]? = some v ∧ H b = some (.frz ob (.own 0)) ∧ ob.data = .cell (some u) ∧ RelV v u ∧ s.heap.get? b = some ob := by
    rintro b ⟨x, hx⟩
    obtain ⟨i, hi, ei⟩ := List.getElem_of_mem (h6 x b hx)
    have hi2 : (freeOf l.scope)[i]? = some x := by rw [List.getElem?_eq_getElem hi, ei]
    obtain ⟨c, v, a1, a2, a3⟩ := h7 i x hi2
    rw [hx] at a1
    cases a1
    rcases a3 with a3 | ⟨ob, u, b1, b2, b3⟩
    · exact a3.elim
    · exact ⟨x, i, v, ob, u, hx, hi2, a2, b1, b2, b3, (e0.hok b _ b1).1⟩
  have ndc : (argNames l.params ++ freeOf l.scope).Nodup := (List.nodup_append.mp LS.nd).1
  have hvb : DVs g ρ H bot (ds ++ caps) (vs ++ vc) := hp.append hcaps
  have hcl : caps.length = vc.length := hcaps.length
  have hvl : ds.length = vs.length := hp.length
  -- the call
  refine PySem.W.kla_callFunE hr.depth hof (by rw [h2]) LS.co LS.gen rfl ⟨c', oc, cvs, tk, rfl, hoc, hcd, hcv⟩ ?_
  have hbt : BindsTo s (PySem.W.kla_fn "<lambda>" (l.qual ++ "<lambda>") l.params l.body l.scope cells pm (.ref c') ctv) ⟨us, []⟩ ((argNames l.params).zip us) := by
    rw [hargs]
    refine bind_wp (dv := []) (rs := us) ⟨[], [], hpar⟩ (fun M A E Q h => wpAny_pure (h none rfl)) (by rw [← hargs]; exact (List.nodup_append.mp ndc).1) (Nat.zero_le _) ?_
    have hul : us.length = (names.map (·.arg)).length := by rw [← rv.length, ← hvl, hlen, hargs]
    unfold bindD
    rw [hul, List.drop_length, Nat.ble_self_eq_true]
    show some (us ++ []) = some us
    rw [List.append_nil]
  refine hbt _ _ _ _ ?_
  have hkl : ∀ x ∈ (argNames l.params).zip us, l.scope.names.lookup x.1 = some .local := fun ⟨x, v⟩ hx => LS.arg x (List.of_mem_zip hx).1
  refine wpAny_newFunctionEnv (fun y hy => LS.nocell y hy) hkl (fun h₁ hns hsb => ⟨nolim.fresh _ hsb, ?_⟩) LS.kind
  have kp : ∀ b o, s.heap.get? b = some o → h₁.get? b = some o := fun b o e => hsb.extBut b o (Nat.ne_of_lt (Heap.lt_size e)) (Heap.get?_push_of_some _ e)
  generalize hE : (PySem.W.envX (l.qual ++ "<lambda>") l.scope s.heap.objs.size f (.ref c') cells : Env) = env
  show codeAny _ _ (.expr l.body (PySem.W.envX (l.qual ++ "<lambda>") l.scope s.heap.objs.size f (.ref c') cells)) _ _
  rw [hE]
  have envL : env.locals = s.heap.objs.size := by rw [← hE] <;> rfl
  have envS : env.scope = l.scope := by rw [← hE] <;> rfl
  have envC : env.cells = cells := by rw [← hE] <;> rfl
  have envF : env.frame = some env.locals := by rw [← hE] <;> rfl
  have envG : env.globals = mainGlobals := by rw [← hE] <;> rfl
  have envB : env.builtins = builtinsNs := by rw [← hE] <;> rfl
  let X : Cx := { prog := g.P, w := g.w, K := g.K, mg := g.mg, base := g.base, A := A.deeper env, N := lamN l, s_0 := s, H_0 := untr cells H, env := env, outer := outer, stack := env :: outer, ex := [], fn := fun _ => false, calm := true, pn := [], xe := fun _ _ => False }
  have noA : ∀ b : Addr, b ∉ X.ex := fun b z => absurd (show b ∈ ([] : List Addr) from z) (by simp)
  have uNone : ∀ {b : Addr}, H b = none → untr cells H b = none := fun {b} h => by
    by_cases hb : ∃ x, cells.lookup x = some b
    · exact untr_in hb
    · rw [untr_out hb]
      exact h
  have nocap : ∀ {b : Addr}, H b = none → ¬ ∃ x, cells.lookup x = some b := fun {b} h hb => by
    obtain ⟨_, _, _, ob, u, _, _, _, q, _⟩ := capt hb
    rw [h] at q
    cases q
  have okU : HOk g.P g.w (untr cells H) s.heap := fun b u q => by
    by_cases hb : ∃ x, cells.lookup x = some b
    · rw [untr_in hb] at q
      cases q
    · rw [untr_out hb] at q
      refine (e0.hok b u q).stay (fun _ _ _ q => q) (fun d q => ?_) fun d xs q => ?_
      · rw [untr_out]
        · exact q
        · intro hd
          obtain ⟨_, _, _, ob, u', _, _, _, q2, _⟩ := capt hd
          rw [q] at q2
          cases q2
      · rw [untr_out]
        · exact q
        · intro hd
          obtain ⟨_, _, _, ob, u', _, _, _, q2, _⟩ := capt hd
          rw [q] at q2
          cases q2
  have hvis : ∀ {i : Nat} {x : Str} {v : V}, (lamN l)[i]? = some x → (L2.start (lamN l) (vs ++ vc))[i]? = some (some v) → ((argNames l.params)[i]? = some x ∧ vs[i]? = some v) ∨ ∃ m : Nat, (freeOf l.scope)[m]? = some x ∧ vc[m]? = some v := by
    intro i x v hx hv
    have hi : i < (vs ++ vc).length := by
      unfold L2.start at hv
      by_cases hi : i < (vs ++ vc).length
      · exact hi
      · rw [List.getElem?_append_right (by rw [List.length_map]; omega), List.getElem?_replicate] at hv
        split at hv <;> cases hv
    have hv2 : (vs ++ vc)[i]? = some v := by
      unfold L2.start at hv
      rw [List.getElem?_append_left (by rw [List.length_map]; exact hi), List.getElem?_map] at hv
      cases q : (vs ++ vc)[i]? with
      | none => rw [q] at hv; cases hv
      | some w => rw [q] at hv; cases hv; rfl
    by_cases hs : i < vs.length
    · refine .inl ⟨?_, by rw [List.getElem?_append_left hs] at hv2; exact hv2⟩
      unfold lamN at hx
      rw [List.append_assoc, List.getElem?_append_left (by omega)] at hx
      exact hx
    · have hs : vs.length ≤ i := Nat.le_of_not_lt hs
      rw [List.getElem?_append_right hs] at hv2
      have hil := (List.getElem?_eq_some_iff.mp hv2).1
      obtain ⟨x', hx'⟩ : ∃ x', (freeOf l.scope)[i - vs.length]? = some x' := by
        exact ⟨_, List.getElem?_eq_getElem (by omega)⟩
      refine .inr ⟨i - vs.length, ?_, hv2⟩
      unfold lamN at hx
      have hil2 := (List.getElem?_eq_some_iff.mp hx').1
      rw [List.append_assoc, List.getElem?_append_right (by omega), List.getElem?_append_left (by omega), ← hlen, hvl] at hx
      exact hx
  have ndF : (freeOf l.scope).Nodup := (List.nodup_append.mp ndc).2.1
  have freeK : ∀ {x : Str}, x ∈ freeOf l.scope → l.scope.names.lookup x = some .free := fun {x} hx => LS.free (x, .free) (free_mem.mp hx) rfl
  have cellK : ∀ {b : Addr} {ob : Obj}, s.heap.get? b = some ob → h₁.get? b = some ob := fun {b ob} e => kp b ob e
  have I : Inv X [] (L2.start (lamN l) (vs ++ vc)) (untr cells H) { s with heap := h₁, toks := s.toks + ((argNames l.params).zip us).length } := by
    refine ⟨⟨e0.mod, by show env.scope.kind = _; rw [envS]; exact LS.kind, envG, envB, by show _ ≤ env.locals; rw [envL]; exact Nat.le_refl _, fun y z c e1 e2 => ?_, fun y hy => ?_, fun y c z _ => ?_, fun _ => hr.hd, Around.frames_deeper e0.frames, .inr ⟨rfl, envF⟩, fun b z => absurd z (noA b), fun b o q => ⟨(e0.bs b o q).1, uNone (e0.bs b o q).2⟩, e0.bsz, fun b _ _ => noA b,
        fun b z => absurd z (noA b), e0.funs, fun b hb => uNone (e0.frf b hb)⟩,
      rfl, e0.bare, Un.kept kp, ⟨fun x => ((argNames l.params).zip us).reverse.lookup x, by show h₁.Ns env.locals _; rw [envL]; exact hns, fun i y v e1 e2 e3 => ?_⟩, fun y c e => ?_, ?_, fun y c e => ?_, fun q hq => absurd (show q ∈ ([] : List (Addr × Obj)) ++ [] from hq) (by simp), okU.kept kp, ?_⟩
    · have e1 : env.cells.lookup y = some c := e1
      have e2 : env.cells.lookup z = some c := e2
      rw [envC] at e1 e2
      exact h5 y z c e1 e2
    · have hy : env.scope.names.lookup y = some .cell ∨ env.scope.names.lookup y = some .free := hy
      rw [envS] at hy
      show ∃ c, env.cells.lookup y = some c
      rw [envC]
      rcases hy with hy | hy
      · exact absurd rfl (LS.nocell _ (PySem.mem_of_lookup hy))
      · have hm : y ∈ freeOf l.scope := free_mem.mpr (PySem.mem_of_lookup hy)
        obtain ⟨i, hi, ei⟩ := List.getElem_of_mem hm
        obtain ⟨c, v, a1, _⟩ := h7 i y (by rw [List.getElem?_eq_getElem hi, ei])
        exact ⟨c, a1⟩
    · have z : false = true := z
      cases z
    · rcases hvis e1 e2 with ⟨hx, hv⟩ | ⟨m, hx, hv⟩
      · obtain ⟨u, hu, ru⟩ := rv.get hv
        have hk : l.scope.names.lookup y = some .local := LS.arg y (List.mem_of_getElem? hx)
        refine ⟨u, ru, .inl ⟨by show env.scope.names.lookup y = _; rw [envS]; exact hk, ?_⟩⟩
        have ndA : (argNames l.params).Nodup := (List.nodup_append.mp ndc).1
        have hz := zip_lookup ndA hx hu
        show ((argNames l.params).zip us).reverse.lookup y = some u
        have nz : (((argNames l.params).zip us).map (·.1)).Nodup := by
          rw [List.map_fst_zip (by rw [← rv.length, ← hvl, hlen]; exact Nat.le_refl _)]
          exact ndA
        have key : ∀ (z : List (Str × Value)), (z.map (·.1)).Nodup → (y, u) ∈ z → z.reverse.lookup y = some u := by
          intro z
          induction z with
          | nil => intro _ h; cases h
          | cons p z ihz =>
            intro hn hm
            rw [List.map_cons, List.nodup_cons] at hn
            rw [List.reverse_cons, lookup_app]
            rcases List.mem_cons.mp hm with e | e
            · subst e
              rw [lookup_none_mem fun q hq => fun w => hn.1 (by
                have hq := List.mem_reverse.mp hq
                exact List.mem_map.mpr ⟨q, hq, w⟩)]
              show [(y, u)].lookup y = some u
              rw [List.lookup_cons, beq_self_eq_true]
            · rw [ihz hn.2 e]
              rfl
        exact key _ nz (PySem.mem_of_lookup hz)
      · obtain ⟨c, v', a1, a2, a3⟩ := h7 m y hx
        rw [hv] at a2
        cases a2
        rcases a3 with a3 | ⟨ob, u, b1, b2, b3⟩
        · exact a3.elim
        · refine ⟨u, b3, .inr ⟨.inr (by show env.scope.names.lookup y = _; rw [envS]; exact freeK (List.mem_of_getElem? hx)), c, by show env.cells.lookup y = _; rw [envC]; exact a1, ob, cellK (e0.hok c _ b1).1, b2⟩⟩
    · have e : env.cells.lookup y = some c := e
      rw [envC] at e
      obtain ⟨_, _, _, ob, u, _, _, _, _, b2, _, b4⟩ := capt ⟨y, e⟩
      exact ⟨some u, ob, cellK b4, b2⟩
    · show untr cells H env.locals = none
      rw [envL]
      exact uNone (e0.hok.fresh (Nat.le_refl _))
    · have e : env.cells.lookup y = some c := e
      rw [envC] at e
      exact untr_in ⟨y, e⟩
    · show (L2.start (lamN l) (vs ++ vc)).length = (lamN l).length
      unfold L2.start
      rw [List.length_append, List.length_map, List.length_replicate, List.length_append]
      have : (argNames l.params).length + (freeOf l.scope).length ≤ (lamN l).length := by
        unfold lamN
        rw [List.length_append, List.length_append]
        omega
      omega
  -- what is known of the cells
  let cc : Cl := fun b v => ∃ (x : Str) (i : Nat), cells.lookup x = some b ∧ (freeOf l.scope)[i]? = some x ∧ vc[i]? = some v
  have ccIn : ∀ {b : Addr} {v : V}, cc b v → ∃ x, cells.lookup x = some b := fun {b v} ⟨x, i, h, _⟩ => ⟨x, h⟩
  have ccAt : ∀ {b : Addr} {v : V}, cc b v → CellT H b v := fun {b v} ⟨x, i, h, hi, hv⟩ => by
    obtain ⟨c, v', a1, a2, a3⟩ := h7 i x hi
    rw [h] at a1
    cases a1
    rw [hv] at a2
    cases a2
    exact a3.elim (fun z => z.elim) id
  have mv0 : Mv H (untr cells H) bot cc := by
    refine ⟨fun a u q nq => ?_, fun b v q => ?_⟩
    · rw [untr_out]
      · exact q
      · intro hb
        obtain ⟨_, _, _, ob, u', _, _, _, b1, b2, _⟩ := capt hb
        rw [q] at b1
        cases b1
        exact nq ⟨ob, _, rfl, b2⟩
    · rcases q with q | ⟨ob, u, b1, b2, b3⟩
      · exact q.elim
      · by_cases hb : ∃ x, cells.lookup x = some b
        · obtain ⟨x, i, v', ob', u', a1, a2, a3, a4, a5, a6, _⟩ := capt hb
          rw [b1] at a4
          cases a4
          rw [b2] at a5
          cases a5
          rw [b3.inj a6]
          exact .inl ⟨x, i, a1, a2, a3⟩
        · exact .inr ⟨ob, u, by rw [untr_out hb]; exact b1, b2, b3⟩
  have M0 : Sim g cc ρ S (untr cells H) (startD (lamN l) (ds ++ caps)) (L2.start (lamN l) (vs ++ vc)) := ⟨R.mv mv0, start_env (DVs.mv mv0 _ hvb)⟩
  have keepC : ∀ {pins : List (Addr × Obj)} {σ : L2.St} {H' : Hp} {s' : Shared} {b : Addr}, Inv X pins σ H' s' → (∃ x, cells.lookup x = some b) → ∀ ob, s.heap.get? b = some ob → s'.heap.get? b = some ob := fun {pins σ H' s' b} J hb ob q => by
    refine J.base.keep b ob q (untr_in hb) (fun z => ?_) (noA b)
    have := e0.frf b z
    exact nocap this hb
  have Gd : Good g (lamC P call l) X false l.scope (fun _ _ => cc) (2 * j + 1) := by
    refine ⟨rfl, rfl, rfl, rfl, rfl, rfl, rfl, LS.nd, rfl, hr.deeper _, by show ScR l.scope env.scope; rw [envS]; exact scR_refl _, fun y hy => .inr ?_, fun pins σ H' s' σd b v J h => ?_, fun z => (by cases z), LS.ndbg, fun _ _ z => (by cases z)⟩
    · show env.scope.names.lookup y = _
      rw [envS]
      rcases isLoc_iff hy with z | z
      · exact z
      · exact absurd rfl (LS.nocell _ (PySem.mem_of_lookup z))
    · obtain ⟨x, hx⟩ := ccIn h
      have hxc : X.env.cells.lookup x = some b := by show env.cells.lookup x = _; rw [envC]; exact hx
      obtain ⟨ob, u, b1, b2, b3⟩ := ccAt h
      refine ⟨J.freeC x b hxc, fun z => ?_, ?_, u, b3, ob, keepC J ⟨x, hx⟩ ob (e0.hok b _ b1).1, b2⟩
      · rcases List.mem_cons.mp (J.stkSub b z) with e | e
        · exact J.cne x b hxc e
        · exact nocap (e0.frf b e) ⟨x, hx⟩
      · show g.base.get? b = none
        cases q : g.base.get? b with
        | none => rfl
        | some ob' => exact absurd ⟨x, hx⟩ (nocap (e0.bs b ob' q).2)
  have run1 := run_e ((run_all B n).1.e X false l.scope (fun _ _ => cc) Gd) I M0 (a := l.body) (S1 := Sr) (d := r) e1
  refine PySem.W.kla_codeExpr (wpAny_mono run1 (fun u s' hq => ?_) fun _ _ z => z.elim)
  obtain ⟨v, H', ρ', J, ru, p1, l1, M1, d1⟩ := hq
  have fC : ∀ {b : Addr}, (∃ x, cells.lookup x = some b) → H' b = none := fun {b} ⟨x, hx⟩ => J.freeC x b (by show env.cells.lookup x = _; rw [envC]; exact hx)
  have mv1 : Mv H' (retr cells H H') cc bot := by
    refine ⟨fun a u q _ => ?_, fun b v q => .inr ?_⟩
    · rw [retr_out]
      · exact q
      · intro hb
        rw [fC hb] at q
        cases q
    · rcases q with q | ⟨ob, u, b1, b2, b3⟩
      · obtain ⟨ob, u, b1, b2, b3⟩ := ccAt q
        exact ⟨ob, u, by rw [retr_in (ccIn q)]; exact b1, b2, b3⟩
      · refine ⟨ob, u, ?_, b2, b3⟩
        rw [retr_out]
        · exact b1
        · intro hb
          rw [fC hb] at b1
          cases b1
  have un := J.base
  have keepU : ∀ {b : Addr} {u : HO}, H b = some u → (∀ ob, u ≠ .frz ob (.own 0)) → untr cells H b = some u ∧ ¬ ∃ x, cells.lookup x = some b := fun {b u} q nq => by
    have hb : ¬ ∃ x, cells.lookup x = some b := fun hb => by
      obtain ⟨_, _, _, ob, u', _, _, _, b1, _⟩ := capt hb
      rw [q] at b1
      cases b1
      exact nq ob rfl
    exact ⟨by rw [untr_out hb]; exact q, hb⟩
  have unF : Un (frs outer) [] H (retr cells H H') s.heap s'.heap := by
    refine ⟨fun b o q n hb hx => un.keep b o q (uNone n) hb hx, fun b o q n hb hx => un.slot b o q (uNone n) hb hx, fun b o q n hx => ?_, un.there, fun b xs q => ?_, fun b ob u q => ?_, fun b ps q => ?_⟩
    · rw [retr_out (nocap n)]
      exact un.free b o q (uNone n) hx
    · obtain ⟨q1, hb⟩ := keepU q (fun _ z => by cases z)
      rw [retr_out hb]
      exact un.tups b xs q1
    · by_cases hb : ∃ x, cells.lookup x = some b
      · rw [retr_in hb]
        exact q
      · rw [retr_out hb]
        exact un.frzs b ob u (by show untr cells H b = _; rw [untr_out hb]; exact q)
    · obtain ⟨q1, hb⟩ := keepU q (fun _ z => by cases z)
      obtain ⟨more, q2⟩ := un.tbls b ps q1
      exact ⟨more, by rw [retr_out hb]; exact q2⟩
  have okF : HOk g.P g.w (retr cells H H') s'.heap := fun b u q => by
    by_cases hb : ∃ x, cells.lookup x = some b
    · obtain ⟨_, _, _, ob, u', _, _, _, b1, b2, _, b4⟩ := capt hb
      rw [retr_in hb, b1] at q
      cases q
      have := keepC J hb ob b4
      exact ⟨this, ob, this⟩
    · rw [retr_out hb] at q
      have out : ∀ {d : Addr} {w : HO}, H' d = some w → retr cells H H' d = some w := fun {d w} q => by
        rw [retr_out]
        · exact q
        · intro hd
          rw [fC hd] at q
          cases q
      exact (J.hok b u q).stay (fun _ _ _ q => q) (fun _ q => out q) fun _ _ q => out q
  obtain ⟨ρ2, p2, R2, d2⟩ := cut_ok R.len p1 (M1.rel.mv mv1) (DV.mv mv1 _ d1)
  exact ⟨v, retr cells H H', J.os, J.bare, unF, okF, ru, ρ2, p2, ⟨unF.tups, unF.frzs⟩, R2, d2⟩
end
end K76
end

/-! text Call -/
section
namespace K76
open PySem PySem.Spec PyProof.Rows L2
/-! ### every call -/
structure FactsD (g : G) (P : Prog1) : Prop where
  defs : ∀ x d, look x P.defs = some d → defOk d = true ∧ ∀ f, g.mg x = some (.ref f) → DefAt g d f
  meths : ∀ c ms m d Ca f, look c P.clss = some ms → look m ms = some d → g.mg c = some (.ref Ca) → Meth g.K Ca m f → defOk d = true ∧ DefAt g d f
/-- the defs that are told by hand -/
def HandOk (g : G) : Prop := ∀ (x : Str) (d : D) (b : Bool) (A : Around) (outer : List Env) (s : Shared) (H : Hp) (ρ : List Addr) (S : Sto) (f : Addr) (us : List Value), byHand x = some d → Room 2 A → Env0 g.P g.w g.K g.mg g.base A outer s H → Rel g bot ρ S H → g.mg x = some (.ref f) → Vals [.bl b] us →
  codeAny (model g.P g.w) A (.call (.ref f) ⟨us, []⟩) (RetK g outer s H ρ d S) s
structure AllOk (g : G) (P : Prog1) : Prop where
  F : Facts g P
  Fc : FactsC g P
  Fd : FactsD g P
  hand : HandOk g
  so : ∀ (C : Cx1) (k : Nat), SetsOk g C k
theorem hasK_of {α : Type} {x : Str} {l : List (Str × α)} {a : α} (h : look x l = some a) : hasK x l = true := by
  unfold hasK
  rw [h]
theorem call_ok {g : G} {P : Prog1} (O : AllOk g P) (n : Nat) : ∀ j, CallOk g P j (callB P n j)
  | 0 => ⟨fun _ _ _ _ _ h => (by cases h), fun _ _ _ _ _ _ h => (by cases h)⟩
  | j + 1 => by
    have ih := call_ok O n j
    have Bd : ∀ d : Def1, BaseOk g (defC P (callB P n j) d) (2 * j + 1) j := fun d => ⟨O.F, O.Fc, ih, Nat.le_refl _, O.so _ _⟩
    refine ⟨fun fn pos kws S r h => ?_, fun fn pos kws S S1 d h A outer s H ρ f vs zs us ws hr e0 R hf hp hz rv rz => ?_⟩
    · cases fn with
      | fn x =>
        have h : (match byHand x with
          | some d => handC P x d pos kws S
          | none => opt (look x P.defs) fun d => opt (bindD d.ps d.dfl pos kws) fun vs => callBody P (callB P n j) n d vs S) = some r := h
        show hasK x P.defs = true
        split at h
        · unfold handC at h
          split at h
          · exact (grd_some h).1
          · cases h
        · obtain ⟨d, h1, _⟩ := opt_some h
          exact hasK_of h1
      | meth c m =>
        obtain ⟨ms, h1, h⟩ := opt_some (show opt (look c P.clss) (fun ms => opt (look m ms) fun d => opt (bindD d.ps d.dfl pos kws) fun vs => callBody P (callB P n j) n d vs S) = some r from h)
        obtain ⟨d, h2, h⟩ := opt_some h
        exact ⟨ms, h1, hasK_of h2⟩
      | lam l caps => trivial
    · cases fn with
      | fn x =>
        have hf : g.mg x = some (.ref f) := hf
        cases hb : byHand x with
        | some dh =>
          have h : (match byHand x with
            | some d => handC P x d pos kws S
            | none => opt (look x P.defs) fun d => opt (bindD d.ps d.dfl pos kws) fun vs => callBody P (callB P n j) n d vs S) = some (d, S1) := h
          rw [hb] at h
          have h : handC P x dh pos kws S = some (d, S1) := h
          unfold handC at h
          split at h
          · rename_i b _ _
            obtain ⟨_, h⟩ := grd_some h
            cases h
            obtain ⟨v, q, rfl, h1, h2⟩ := hp
            have h1 : v = .bl b := h1
            subst h1
            have h2 : q = [] := h2
            subst h2
            have hz : zs = [] := hz
            subst hz
            cases rz
            exact O.hand x d b A outer s H ρ S f us hb (hr.mono (by omega)) e0 R hf rv
          · cases h
        | none =>
          have h : (match byHand x with
            | some d => handC P x d pos kws S
            | none => opt (look x P.defs) fun d => opt (bindD d.ps d.dfl pos kws) fun vs => callBody P (callB P n j) n d vs S) = some (d, S1) := h
          rw [hb] at h
          obtain ⟨dd, h1, h⟩ := opt_some h
          obtain ⟨ds, h2, h⟩ := opt_some h
          obtain ⟨hok, hat⟩ := O.Fd.defs x dd h1
          exact def_call (hat f hf) hok (Bd dd) h2 h hr e0 R hp hz rv rz
      | meth c m =>
        obtain ⟨ms, h1, h⟩ := opt_some (show opt (look c P.clss) (fun ms => opt (look m ms) fun d => opt (bindD d.ps d.dfl pos kws) fun vs => callBody P (callB P n j) n d vs S) = some (d, S1) from h)
        obtain ⟨dd, h2, h⟩ := opt_some h
        obtain ⟨ds, h3, h⟩ := opt_some h
        obtain ⟨Ca, hg, hm⟩ := hf
        obtain ⟨hok, hat⟩ := O.Fd.meths c ms m dd Ca f h1 h2 hg hm
        exact def_call hat hok (Bd dd) h3 h hr e0 R hp hz rv rz
      | lam l caps =>
        have h : noKw kws (callLam P (callB P n j) n l caps pos S) = some (d, S1) := h
        match kws, h, hz with
        | [], h, hz =>
          have hz : zs = [] := hz
          subst hz
          cases rz
          exact lam_call (show BaseOk g (lamC P (callB P n j) l) (2 * j + 1) j from ⟨O.F, O.Fc, ih, Nat.le_refl _, O.so _ _⟩) h hr e0 R hf hp rv
        | _ :: _, h, _ => cases h
end K76
end

/-! text Hd -/
section
namespace K76
open PySem PySem.Spec PyProof.Rows L2
/-! ### the program: only classes without bases have methods and fields -/
def clsOf1 : List Stmt → List (Str × List (Str × Def1))
  | [] => []
  | .ClassDef n bs _ b _ _ _ _ _ _ _ :: r => (n, match bs with
    | [] => defsOf (n ++ ".") b
    | _ :: _ => []) :: clsOf1 r
  | _ :: r => clsOf1 r
def fldsOf1 : List Stmt → List (Str × List Str)
  | [] => []
  | .ClassDef n bs _ b _ _ _ _ _ _ _ :: r => (n, match bs with
    | [] => uniq (fldMs b) []
    | _ :: _ => []) :: fldsOf1 r
  | _ :: r => fldsOf1 r
def mkProg1 (b : List Stmt) : Prog1 := ⟨defsOf "" b, clsOf1 b, cstOf b, fldsOf1 b⟩
/-! ### objects seen -/
abbrev Frag := PySem.W.Frag
abbrev Lk : Type := Addr → Option Obj
def funAt (K : Lk) (a : Addr) : Option FuncData := match K a with
  | some ⟨_, _, .func fd, _⟩ => some fd
  | _ => none
theorem funAt_some {K : Lk} {a : Addr} {fd : FuncData} (h : funAt K a = some fd) : ∃ oc od osl, K a = some ⟨oc, od, .func fd, osl⟩ := by
  unfold funAt at h
  split at h
  · rename_i oc od fd' osl q
    cases h
    exact ⟨_, _, _, q⟩
  · cases h
def flC : D → Value → Bool
  | .non, .none => true
  | .bl b, .bool c => b == c
  | .int i, .int j _ => decide (i = j)
  | .str s, .str t _ => eqS s t
  | _, _ => false
def flsC : List D → List Value → Bool
  | [], [] => true
  | d :: r, u :: q => match flC d u with
    | true => flsC r q
    | false => false
  | _, _ => false
theorem flC_ok {d : D} {u : Value} (h : flC d u = true) : ∃ v, RelV v u ∧ ∀ g ρ H c, DV g ρ H c d v := by
  unfold flC at h
  split at h
  · exact ⟨.non, rfl, fun _ _ _ _ => rfl⟩
  · rename_i b c
    have : b = c := eq_of_beq h
    subst this
    exact ⟨.bl b, rfl, fun _ _ _ _ => rfl⟩
  · have := of_decide_eq_true h
    subst this
    exact ⟨.int _, ⟨_, rfl⟩, fun _ _ _ _ => rfl⟩
  · have := eqS_iff.mp h
    subst this
    exact ⟨.str _, ⟨_, rfl⟩, fun _ _ _ _ => rfl⟩
  · cases h
theorem flsC_ok : ∀ {ds : List D} {us : List Value}, flsC ds us = true → ∃ vs, Vals vs us ∧ ∀ g ρ H c, DVs g ρ H c ds vs
  | [], [], _ => ⟨[], .nil, fun _ _ _ _ => rfl⟩
  | [], _ :: _, h => by cases h
  | _ :: _, [], h => by cases h
  | d :: r, u :: q, h => by
    have h : (match flC d u with | true => flsC r q | false => false) = true := h
    cases e : flC d u with
    | false => rw [e] at h; cases h
    | true =>
      rw [e] at h
      obtain ⟨v, h1, h2⟩ := flC_ok e
      obtain ⟨vs, h3, h4⟩ := flsC_ok h
      exact ⟨v :: vs, .cons h1 h3, fun g ρ H c => ⟨v, vs, rfl, h2 g ρ H c, h4 g ρ H c⟩⟩
def cstC (K : Lk) (d : D) (u : Value) : Bool := match d with
  | .tup ds => match u with
    | .ref a => match K a with
      | some ⟨.type c, none, .seq its _, _⟩ => decide (c = "tuple") && (Nat.ble its.size sizeLine && flsC ds its.toList)
      | _ => false
    | _ => false
  | d => flC d u
theorem cstC_ok {K : Lk} {d : D} {u : Value} (h : cstC K d u = true) : ∃ v, RelV v u ∧ ∀ (g : G) ρ H c, (∀ a o, K a = some o → g.K.lookup a = some o) → DV g ρ H c d v := by
  unfold cstC at h
  split at h
  · rename_i ds
    split at h
    · rename_i a
      split at h
      · rename_i c its n osl q
        obtain ⟨h1, h⟩ := Bool.and_eq_true_iff.mp h
        obtain ⟨h2, h3⟩ := Bool.and_eq_true_iff.mp h
        obtain ⟨vs, h4, h5⟩ := flsC_ok h3
        refine ⟨.ref a, rfl, fun g ρ H cl e => ⟨a, vs, rfl, .inr ⟨_, its, n, e _ _ q, congrArg Value.type (of_decide_eq_true h1), rfl, Nat.le_of_ble_eq_true h2, h4, rfl⟩, h5 g ρ H cl⟩⟩
      · cases h
    · cases h
  · obtain ⟨v, h1, h2⟩ := flC_ok h
    exact ⟨v, h1, fun g ρ H c _ => h2 g ρ H c⟩
def dflC (K : Lk) (ds : List D) (v : Value) : Bool := match ds with
  | [] => match v with
    | .none => true
    | _ => false
  | _ :: _ => match v with
    | .ref T => match K T with
      | some ⟨_, _, .seq its _, _⟩ => flsC ds its.toList
      | _ => false
    | _ => false
theorem dflC_ok {g : G} {K : Lk} (hK : ∀ a o, K a = some o → g.K.lookup a = some o) {ds : List D} {v : Value} (h : dflC K ds v = true) : (v = .none ∧ ds = []) ∨ ∃ (T : Addr) (o : Obj) (items : Array Value) (n : Nat), v = .ref T ∧ g.K.lookup T = some o ∧ o.data = .seq items n ∧ ∀ ρ H c, RL (DU g ρ H c) ds items.toList := by
  unfold dflC at h
  split at h
  · split at h
    · exact .inl ⟨rfl, rfl⟩
    · cases h
  · split at h
    · rename_i T
      split at h
      · rename_i oc od its n osl q
        obtain ⟨vs, h1, h2⟩ := flsC_ok h
        refine .inr ⟨_, _, its, n, rfl, hK _ _ q, rfl, fun ρ H c => RL.of (h2 g ρ H c) h1⟩
      · cases h
    · cases h
/-- a code object of that name -/
def codeC (K : Lk) (v : Value) (q : Str) : Bool := match v with
  | .ref c => match K c with
    | some ⟨_, _, .fields vs, _⟩ => match vs.toList with
      | _ :: .str n _ :: _ => eqS n q
      | _ => false
    | _ => false
  | _ => false
theorem codeC_ok {K : Frag} {L : Lk} (hK : ∀ a o, L a = some o → K.lookup a = some o) {v : Value} {q : Str} (h : codeC L v q = true) : PySem.W.codeIn K v q = true := by
  unfold codeC at h
  split at h
  · rename_i c
    split at h
    · rename_i oc od vs osl e
      split at h
      · rename_i v0 n t r ev
        unfold PySem.W.codeIn
        show (match K.lookup c with
          | some ⟨_, _, .fields vs, _⟩ => (match vs.toList with
            | _ :: .str n _ :: _ => n == q
            | _ => false)
          | _ => false) = true
        rw [hK _ _ e]
        show (match vs.toList with
          | _ :: .str n _ :: _ => n == q
          | _ => false) = true
        rw [ev]
        exact beq_iff_eq.mpr (eqS_iff.mp h)
      · cases h
    · cases h
  · cases h
/-- a def as it must stand at a -/
def dfC (K : Lk) (a : Addr) (d : Def1) : Bool := match funAt K a with
  | some fd => codeC K fd.code fd.qualname && (eqS d.qual (fd.qualname ++ ".<locals>.") && (plainA fd.params && (eqNames d.ps (argNames fd.params) && (Nat.beq fd.globals mainGlobals && (fd.closure.isEmpty && (Nat.beq fd.builtins builtinsNs && dflC K d.dfl fd.defaults))))))
  | none => false
abbrev BS : Type := Option (FuncBody × Scope)
def bsAt (K : Lk) (a : Addr) : BS := match funAt K a with
  | some fd => some (fd.body, fd.scope)
  | none => none
def bsOf (d : Def1) : BS := some (.stmts d.body, d.scope)
/-- the code object and its table -/
def codeAd (K : Lk) (a : Addr) : Addr := match funAt K a with
  | some fd => match fd.code with
    | .ref c => c
    | _ => 0
  | none => 0
def tabAd (K : Lk) (c : Addr) : Addr := match K c with
  | some ⟨_, _, .fields vs, _⟩ => match vs.getD 11 .none with
    | .ref P => P
    | _ => 0
  | _ => 0
def cpOf (K : Lk) (a : Addr) : Addr × Addr := (codeAd K a, tabAd K (codeAd K a))
def lamDs (P : Prog1) : List (Str × Def1) := P.defs.filter fun p => p.2.lam
/-! the module's names -/
abbrev Es : Type := List DictEntry
def findE (x : Str) : Es → Option Value
  | [] => none
  | e :: r => match e.key with
    | .str s _ => match eqS s x with
      | true => some e.val
      | false => findE x r
    | _ => findE x r
def noRef : Es → Bool
  | [] => true
  | e :: r => match e.key with
    | .str _ _ => noRef r
    | _ => false
def gaE (E : Es) (x : Str) : Addr := match findE x E with
  | some (.ref a) => a
  | _ => 0
def isRefE (E : Es) (x : Str) : Bool := match findE x E with
  | some (.ref _) => true
  | _ => false
def csOf (P : Prog1) (K : Lk) (E : Es) : List (Addr × Addr) := (lamDs P).map fun p => cpOf K (gaE E p.1)
def tOf (P : Prog1) (K : Lk) (E : Es) : List (Addr × Str) := (lamDs P).map fun p => ((cpOf K (gaE E p.1)).2, p.2.qual ++ "<lambda>")
def methsOf (P : Prog1) : List (Str × Str × Def1) := P.clss.flatMap fun c => c.2.map fun m => (c.1, m.1, m.2)
def notDbg (x : Str) : Bool := !eqS x "__debug__"
def freeE (E : Es) (x : Str) : Bool := match findE x E with
  | none => true
  | some _ => false
def gcdE (E : Es) (x : Str) : Bool := match findE x E with
  | some (.builtin n) => decide (n = "math.gcd")
  | _ => false
def bltC (P : Prog1) (E : Es) : Bool := blts.all fun p => hasK p.1 P.defs || hasK p.1 P.clss || hasK p.1 P.csts || match isGcd p.2 with
  | true => gcdE E p.1
  | false => freeE E p.1
def clsC (P : Prog1) (K : Frag) : Bool := P.clss.all fun c => match c.2 with
  | [] => true
  | _ :: _ => He.Fa.ok K (.glo c.1) && (notDbg c.1 && (He.Fa.ok K (.cls c.1) && (He.Fa.ok K (.mkr c.1) && c.2.all fun m => He.Fa.ok K (.meth c.1 m.1))))
def fldC (P : Prog1) (K : Frag) : Bool := P.flds.all fun c => match c.2 with
  | [] => true
  | _ :: _ => He.Fa.ok K (.glo c.1) && (He.Fa.ok K (.cls c.1) && c.2.all fun f => He.Fa.ok K (.noat c.1 f))
def cstsC (P : Prog1) (K : Lk) (E : Es) : Bool := P.csts.all fun p => notDbg p.1 && match findE p.1 E with
  | some u => cstC K p.2 u
  | _ => false
def defsC (P : Prog1) (K : Lk) (E : Es) : Bool := P.defs.all fun p => notDbg p.1 && (isRefE E p.1 && dfC K (gaE E p.1) p.2)
def mthsC (P : Prog1) (K : Lk) (F : Frag) : Bool := (methsOf P).all fun m => !m.2.2.lam && dfC K (He.ma F (He.ga F m.1) m.2.1) m.2.2
def tysC (P : Prog1) (E : Es) : Bool := tyNames.all fun p => hasK p.1 P.csts || hasK p.1 P.defs || hasK p.1 P.clss || freeE E p.1
def codeHdO (o : Option Obj) (c P : Addr) : Bool := match o with
  | some ⟨.type "code", _, .fields vs, _⟩ => (match (vs[11]? : Option Value) with | some (.ref P') => P' == P | _ => false) &&
      (match vs.getD 18 .none with | .str _ _ => true | _ => false) && (match vs.getD 7 .none with | .int _ _ => true | _ => false) &&
      (match vs.getD 9 .none with | .bool _ => true | _ => false) && (match vs.getD 10 .none with | .int _ _ => true | _ => false) && c != P
  | _ => false
def tabsC (P : Prog1) (K : Lk) (E : Es) : Bool := ((csOf P K E).all fun p => codeHdO (K p.1) p.1 p.2) && (tOf P K E).all fun a => (tOf P K E).all fun b => !Nat.beq a.1 b.1 || eqS a.2 b.2
def allC (P : Prog1) (fas : List He.Fa) (K : Lk) (E : Es) (F : Frag) : Bool := noRef E && (bltC P E && (clsC P F && (fldC P F && (cstsC P K E && (defsC P K E && (mthsC P K F && (tysC P E && (tabsC P K E && ((fas.all fun f => f.ok F) && (freeE E "range" && (freeE E "zip" && freeE E "enumerate")))))))))))
/-- a def beside, told by hand -/
abbrev Star : Type := Str × Arguments × List Stmt × Scope
abbrev PBS : Type := Option (Arguments × FuncBody × Scope)
def pbsAt (K : Lk) (a : Addr) : PBS := match funAt K a with
  | some fd => some (fd.params, fd.body, fd.scope)
  | none => none
def pbsOf (t : Star) : PBS := some (t.2.1, .stmts t.2.2.1, t.2.2.2)
def starOf (x : Str) : List Stmt → Star
  | [] => (x, ⟨[], [], none, [], [], none, []⟩, [], ⟨.function, [], false, false, []⟩)
  | .FunctionDef n a b _ _ _ sc _ _ _ :: r => match eqS n x with
    | true => (x, a, b, sc)
    | false => starOf x r
  | _ :: r => starOf x r
def starC (K : Lk) (a : Addr) : Bool := match funAt K a with
  | some fd => codeC K fd.code fd.qualname && (Nat.beq fd.globals mainGlobals && (fd.closure.isEmpty && (Nat.beq fd.builtins builtinsNs && match fd.defaults with
    | .none => true
    | _ => false)))
  | none => false
abbrev AlK : Type := Bool × List BS × List BS × PBS
def obsK (P : Prog1) (fas : List He.Fa) (t : Star) (K : Lk) (E : Es) (F : Frag) : AlK := (allC P fas K E F && (isRefE E t.1 && starC K (gaE E t.1)), P.defs.map fun p => bsAt K (gaE E p.1), (methsOf P).map fun m => bsAt K (He.ma F (He.ga F m.1) m.2.1), pbsAt K (gaE E t.1))
def valK (P : Prog1) (t : Star) : AlK := (true, P.defs.map fun p => bsOf p.2, (methsOf P).map fun m => bsOf m.2.2, pbsOf t)
/-- empty tables -/
def tabsE (P : Prog1) (K : Lk) (E : Es) (gt : Lk) : Bool := (csOf P K E).all fun p => match gt p.2 with
  | some o => He.emptyTab o
  | none => false
structure SaysK (P : Prog1) (fas : List He.Fa) (t : Star) (h : Heap) (F : Frag) (K : Lk) (E : Es) : Prop where
  kin : F.In h
  lk : ∀ a o, K a = some o → F.lookup a = some o
  glob : ∃ oc od ep osl, F.lookup mainGlobals = some ⟨oc, od, .dict E.toArray ep, osl⟩
  obs : obsK P fas t K E F = valK P t
  out : ∀ p ∈ csOf P K E, F.lookup p.2 = none
  empty : ∀ p ∈ csOf P K E, h.get? p.2 = some { cls := .none, data := .fields #[] }
/-! ### what is looked at -/
/-- a class's own: its namespace's methods, the classes above it -/
def refsV (v : Value) : List Addr := match v with
  | .ref a => [a]
  | _ => []
def frontG (gt : Lk) (E : Es) : List Str → List Addr
  | [] => []
  | x :: r => (gaE E x :: match gt (gaE E x) with
    | some ⟨_, _, .cls cd, _⟩ => cd.ns :: cd.mro.flatMap refsV ++ (match gt cd.ns with
      | some ⟨_, _, .dict es _, _⟩ => es.toList.flatMap fun e => refsV e.val
      | _ => [])
    | _ => []) ++ frontG gt E r
def lkG (gt : Lk) (N : Nat) (a : Addr) : Option Obj := match Nat.blt a N with
  | true => match gt a with
    | some o => match He.emptyTab o with
      | true => none
      | false => some o
    | none => none
  | false => none
def esG (gt : Lk) : Es := match gt mainGlobals with
  | some ⟨_, _, .dict es _, _⟩ => es.toList
  | _ => []
def hasE (gt : Lk) : Bool := match lkG gt 1000 mainGlobals with
  | some ⟨_, _, .dict _ _, _⟩ => true
  | _ => false
def upTo : Nat → List Addr
  | 0 => []
  | n + 1 => n :: upTo n
def frK (gt : Lk) (xs : List Str) (N : Nat) : Frag := He.frT gt (mainGlobals :: frontG gt (esG gt) xs ++ upTo N)
theorem mem_upTo : ∀ {n a : Nat}, a < n → a ∈ upTo n
  | 0, _, h => absurd h (Nat.not_lt_zero _)
  | n + 1, a, h => by
    show a ∈ n :: upTo n
    by_cases e : a = n
    · rw [e]
      exact List.mem_cons_self
    · exact List.mem_cons_of_mem _ (mem_upTo (by omega))
theorem frT_lookup {gt : Lk} {a : Addr} {o : Obj} (h : gt a = some o) (he : He.emptyTab o = false) : ∀ {as : List Addr}, a ∈ as → (He.frT gt as).lookup a = some o := by
  intro as hm
  cases e : (He.frT gt as).lookup a with
  | some o' =>
    have := (He.frT_mem e).1
    rw [h] at this
    exact this.symm
  | none =>
    exfalso
    have hin : (a, o) ∈ He.frT gt as := List.mem_filter.mpr ⟨List.mem_filterMap.mpr ⟨a, hm, by rw [h]; rfl⟩, by
      show (!He.emptyTab o) = true
      rw [he]
      rfl⟩
    have key : ∀ l : List (Addr × Obj), (a, o) ∈ l → l.lookup a ≠ none := fun l => by
      induction l with
      | nil => intro hm _; cases hm
      | cons p r ih =>
        intro hm hn
        obtain ⟨b, u⟩ := p
        rw [List.lookup_cons] at hn
        cases q : (a == b) with
        | true => rw [q] at hn; cases hn
        | false =>
          rw [q] at hn
          rcases List.mem_cons.mp hm with z | z
          · obtain ⟨rfl, _⟩ := Prod.mk.inj z
            rw [beq_self_eq_true] at q
            cases q
          · exact ih z hn
    exact key _ hin e
theorem lkG_ok {gt : Lk} {xs : List Str} {N : Nat} {a : Addr} {o : Obj} (h : lkG gt N a = some o) : (frK gt xs N).lookup a = some o := by
  unfold lkG at h
  cases e : Nat.blt a N with
  | false => rw [e] at h; cases h
  | true =>
    rw [e] at h
    cases g : gt a with
    | none => rw [g] at h; cases h
    | some u =>
      rw [g] at h
      cases q : He.emptyTab u with
      | true =>
        have h : (match He.emptyTab u with
          | true => none
          | false => some u) = some o := h
        rw [q] at h
        cases h
      | false =>
        have h : (match He.emptyTab u with
          | true => none
          | false => some u) = some o := h
        rw [q] at h
        cases h
        exact frT_lookup g q (List.mem_append_right _ (mem_upTo (Nat.le_of_ble_eq_true e)))
abbrev obN : Nat := 1900
def obsH (P : Prog1) (fas : List He.Fa) (t : Star) (xs : List Str) (gt : Lk) : (Bool × Bool) × AlK := ((hasE gt, tabsE P (lkG gt obN) (esG gt) gt), obsK P fas t (lkG gt obN) (esG gt) (frK gt xs obN))
theorem hasE_ok {gt : Lk} {xs : List Str} (h : hasE gt = true) : ∃ oc od ep osl, (frK gt xs obN).lookup mainGlobals = some ⟨oc, od, .dict (esG gt).toArray ep, osl⟩ := by
  unfold hasE at h
  split at h
  · rename_i oc od es ep osl e
    have hl : gt mainGlobals = some ⟨oc, od, .dict es ep, osl⟩ ∧ He.emptyTab ⟨oc, od, .dict es ep, osl⟩ = false := by
      unfold lkG at e
      split at e
      · split at e
        · rename_i o g
          split at e
          · cases e
          · rename_i q
            cases e
            exact ⟨g, q⟩
        · cases e
      · cases e
    refine ⟨oc, od, ep, osl, ?_⟩
    have he : esG gt = es.toList := by
      unfold esG
      rw [hl.1]
    rw [he, Array.toArray_toList]
    exact frT_lookup hl.1 hl.2 (List.mem_append_left _ List.mem_cons_self)
  · cases h
def hookK (P : Prog1) (fas : List He.Fa) (t : Star) (xs : List Str) : PySem.W.Hook where
  α := (Bool × Bool) × AlK
  obs := fun s => obsH P fas t xs s.heap.get?
  val := fun _ => ((true, true), valK P t)
  says := fun _ h => ∃ (F : Frag) (K : Lk) (E : Es), SaysK P fas t h F K E
  of := fun w s e => by
    have e0 : hasE s.heap.get? = true := congrArg (fun z : (Bool × Bool) × AlK => z.1.1) e
    have e1 : tabsE P (lkG s.heap.get? obN) (esG s.heap.get?) s.heap.get? = true := congrArg (fun z : (Bool × Bool) × AlK => z.1.2) e
    have e2 : obsK P fas t (lkG s.heap.get? obN) (esG s.heap.get?) (frK s.heap.get? xs obN) = valK P t := congrArg (fun z : (Bool × Bool) × AlK => z.2) e
    have key : ∀ p ∈ csOf P (lkG s.heap.get? obN) (esG s.heap.get?), ∃ o, s.heap.get? p.2 = some o ∧ He.emptyTab o = true := fun p hp => by
      have h := List.all_eq_true.mp e1 p hp
      cases q : s.heap.get? p.2 with
      | none =>
        rw [q] at h
        cases h
      | some o =>
        rw [q] at h
        exact ⟨o, rfl, h⟩
    exact ⟨_, _, _, He.frT_in, fun a o => lkG_ok, hasE_ok e0, e2, fun p hp => by
      obtain ⟨o, q, z⟩ := key p hp
      exact He.frT_none q z, fun p hp => by
      obtain ⟨o, q, z⟩ := key p hp
      rw [q, He.emptyTab_eq z]⟩
  keeps := fun _ _ _ ⟨F, K, E, c⟩ k => ⟨F, K, E, PySem.W.Frag.In.keeps c.kin k, c.lk, c.glob, c.obs, c.out, fun p hp => k _ _ (c.empty p hp)⟩
end K76
end

/-! text Hf -/
section
set_option maxHeartbeats 1000000
namespace K76
open PySem PySem.Spec PyProof.Rows L2
/-! ### the module's facts from what is seen -/
theorem all_mem {α : Type} {p : α → Bool} {l : List α} (h : l.all p = true) {x : α} (hx : x ∈ l) : p x = true := List.all_eq_true.mp h x hx
theorem ndb {x : Str} (h : notDbg x = true) : (x == ("__debug__" : Str)) = false := by
  unfold notDbg at h
  exact beq_eq_false_iff_ne.mpr (eqS_ne (by simpa using h))
theorem look_of {α : Type} {x : Str} {l : List (Str × α)} (h : hasK x l = true) : ∃ b, look x l = some b := by
  unfold hasK at h
  split at h
  · exact ⟨_, by assumption⟩
  · cases h
theorem hasK_none {α : Type} {x : Str} {l : List (Str × α)} (h : look x l = none) : hasK x l = false := by
  unfold hasK
  rw [h]
theorem hasK_false {α : Type} {x : Str} {l : List (Str × α)} (h : hasK x l = false) : look x l = none := by
  unfold hasK at h
  split at h
  · cases h
  · assumption
section
variable {PP : Prog1} {fas : List He.Fa} {tt : Star} {h : Heap} {F : Frag} {K : Lk} {E : Es} {mg : Str → Option Value}
structure AllC (P : Prog1) (fas : List He.Fa) (K : Lk) (E : Es) (F : Frag) : Prop where
  nr : noRef E = true
  blt : bltC P E = true
  cls : clsC P F = true
  fld : fldC P F = true
  csts : cstsC P K E = true
  defs : defsC P K E = true
  mths : mthsC P K F = true
  tys : tysC P E = true
  tabs : tabsC P K E = true
  fas : (fas.all fun f => f.ok F) = true
  rng : freeE E "range" = true
  zip : freeE E "zip" = true
  enm : freeE E "enumerate" = true
theorem SaysK.all2 (c : SaysK PP fas tt h F K E) : (allC PP fas K E F && (isRefE E tt.1 && starC K (gaE E tt.1))) = true := congrArg (fun z : AlK => z.1) c.obs
theorem SaysK.all (c : SaysK PP fas tt h F K E) : AllC PP fas K E F := by
  have e := (He.ba c.all2).1
  obtain ⟨h0, e⟩ := He.ba e
  obtain ⟨h1, e⟩ := He.ba e
  obtain ⟨h2, e⟩ := He.ba e
  obtain ⟨h3, e⟩ := He.ba e
  obtain ⟨h4, e⟩ := He.ba e
  obtain ⟨h5, e⟩ := He.ba e
  obtain ⟨h6, e⟩ := He.ba e
  obtain ⟨h7, e⟩ := He.ba e
  obtain ⟨h8, e⟩ := He.ba e
  obtain ⟨h9, e⟩ := He.ba e
  obtain ⟨h10, e⟩ := He.ba e
  obtain ⟨h11, h12⟩ := He.ba e
  exact ⟨h0, h1, h2, h3, h4, h5, h6, h7, h8, h9, h10, h11, h12⟩
theorem SaysK.bs (c : SaysK PP fas tt h F K E) {p : Str × Def1} (hp : p ∈ PP.defs) : bsAt K (gaE E p.1) = bsOf p.2 := by
  have e : (PP.defs.map fun p => bsAt K (gaE E p.1)) = PP.defs.map fun p => bsOf p.2 := congrArg (fun z : AlK => z.2.1) c.obs
  exact List.map_inj_left.mp e p hp
theorem SaysK.bm (c : SaysK PP fas tt h F K E) {m : Str × Str × Def1} (hp : m ∈ methsOf PP) : bsAt K (He.ma F (He.ga F m.1) m.2.1) = bsOf m.2.2 := by
  have e : ((methsOf PP).map fun m => bsAt K (He.ma F (He.ga F m.1) m.2.1)) = (methsOf PP).map fun m => bsOf m.2.2 := congrArg (fun z : AlK => z.2.2.1) c.obs
  exact List.map_inj_left.mp e m hp
/-! the module's names -/
theorem find_some {x : Str} : ∀ {E : Es} {u : Value}, findE x E = some u → ∃ e, E.find? (·.key.isStr x) = some e ∧ e.val = u
  | [], _, h => by cases h
  | e :: r, u, h => by
    unfold findE at h
    split at h
    · rename_i s t q
      cases hs : eqS s x with
      | true =>
        rw [hs] at h
        cases h
        refine ⟨e, ?_, rfl⟩
        have : e.key.isStr x = true := by
          rw [q]
          exact beq_iff_eq.mpr (eqS_iff.mp hs)
        rw [List.find?_cons, this]
      | false =>
        rw [hs] at h
        obtain ⟨e', h1, h2⟩ := find_some h
        refine ⟨e', ?_, h2⟩
        have : e.key.isStr x = false := by
          rw [q]
          exact beq_eq_false_iff_ne.mpr (eqS_ne hs)
        rw [List.find?_cons, this]
        exact h1
    · rename_i hne
      obtain ⟨e', h1, h2⟩ := find_some h
      refine ⟨e', ?_, h2⟩
      have : e.key.isStr x = false := by
        cases hk : e.key with
        | str s t => exact absurd hk (hne s t)
        | _ => rfl
      rw [List.find?_cons, this]
      exact h1
theorem find_none {x : Str} : ∀ {E : Es}, findE x E = none → E.find? (·.key.isStr x) = none
  | [], _ => rfl
  | e :: r, h => by
    unfold findE at h
    split at h
    · rename_i s t q
      cases hs : eqS s x with
      | true =>
        rw [hs] at h
        cases h
      | false =>
        rw [hs] at h
        have : e.key.isStr x = false := by
          rw [q]
          exact beq_eq_false_iff_ne.mpr (eqS_ne hs)
        rw [List.find?_cons, this]
        exact find_none h
    · rename_i hne
      have : e.key.isStr x = false := by
        cases hk : e.key with
        | str s t => exact absurd hk (hne s t)
        | _ => rfl
      rw [List.find?_cons, this]
      exact find_none h
theorem noRef_ok : ∀ {E : Es}, noRef E = true → E.any (·.refKey) = false
  | [], _ => rfl
  | e :: r, h => by
    unfold noRef at h
    split at h
    · rename_i s t q
      rw [List.any_cons, noRef_ok h]
      unfold DictEntry.refKey
      rw [q]
      rfl
    · cases h
theorem SaysK.ns (c : SaysK PP fas tt h F K E) {x : Str} {u : Value} (e : findE x E = some u) : PySem.W.nsIn F mainGlobals x = some (some u) := by
  obtain ⟨oc, od, ep, osl, q⟩ := c.glob
  obtain ⟨en, h1, h2⟩ := find_some e
  unfold PySem.W.nsIn
  rw [q]
  show (match E.toArray.toList.find? (·.key.isStr x) with
    | some e => some (some e.val)
    | none => if E.toArray.toList.any (·.refKey) then none else some none) = _
  rw [List.toList_toArray, h1]
  show some (some en.val) = _
  rw [h2]
theorem SaysK.nsN (c : SaysK PP fas tt h F K E) {x : Str} (e : freeE E x = true) : PySem.W.nsIn F mainGlobals x = some none := by
  obtain ⟨oc, od, ep, osl, q⟩ := c.glob
  have e : findE x E = none := by
    unfold freeE at e
    split at e
    · assumption
    · cases e
  unfold PySem.W.nsIn
  rw [q]
  show (match E.toArray.toList.find? (·.key.isStr x) with
    | some e => some (some e.val)
    | none => if E.toArray.toList.any (·.refKey) then none else some none) = _
  rw [List.toList_toArray, find_none e, noRef_ok c.all.nr]
  rfl
theorem isRefE_ok {E : Es} {x : Str} (h : isRefE E x = true) : findE x E = some (.ref (gaE E x)) := by
  unfold isRefE at h
  unfold gaE
  split at h
  · rename_i a q
    rw [q]
  · cases h
theorem SaysK.glo (c : SaysK PP fas tt h F K E) (G : h.Ns mainGlobals mg) {x : Str} (e : isRefE E x = true) : mg x = some (.ref (gaE E x)) := PySem.W.mg_of c.kin G (c.ns (isRefE_ok e))
theorem SaysK.free (c : SaysK PP fas tt h F K E) (G : h.Ns mainGlobals mg) {x : Str} (e : freeE E x = true) : mg x = none := PySem.W.mg_none_of c.kin G (c.nsN e)
theorem SaysK.star (c : SaysK PP fas tt h F K E) : isRefE E tt.1 = true ∧ ∃ name qual kV doc pm an cdv ct oc od osl, F.lookup (gaE E tt.1) = some ⟨oc, od, .func (PySem.W.fnOf name qual tt.2.1 tt.2.2.1 tt.2.2.2 .none kV doc pm an cdv ct), osl⟩ ∧ PySem.W.codeIn F cdv qual = true := by
  obtain ⟨h0, h1⟩ := He.ba (He.ba c.all2).2
  refine ⟨h0, ?_⟩
  have h2 : pbsAt K (gaE E tt.1) = pbsOf tt := congrArg (fun z : AlK => z.2.2.2) c.obs
  unfold starC at h1
  unfold pbsAt at h2
  cases e : funAt K (gaE E tt.1) with
  | none => rw [e] at h1; cases h1
  | some fd =>
    rw [e] at h1 h2
    obtain ⟨oc, od, osl, lk⟩ := funAt_some e
    obtain ⟨n1, n2, n3, n4, n5, n6, n7, n8, n9, n10, n11, n12, n13, n14, n15⟩ := fd
    obtain ⟨k1, h1⟩ := He.ba h1
    obtain ⟨k5, h1⟩ := He.ba h1
    obtain ⟨k6, h1⟩ := He.ba h1
    obtain ⟨k7, k8⟩ := He.ba h1
    have e6 : n6 = mainGlobals := Nat.eq_of_beq_eq_true k5
    have e7 : n7 = [] := List.isEmpty_iff.mp k6
    have e15 : n15 = builtinsNs := Nat.eq_of_beq_eq_true k7
    have e8 : n8 = .none := by
      cases n8 with
      | none => rfl
      | _ => cases k8
    have h2 : (some (n3, n4, n5) : PBS) = some (tt.2.1, .stmts tt.2.2.1, tt.2.2.2) := h2
    injection h2 with h2
    obtain ⟨e3, h2⟩ := Prod.mk.inj h2
    obtain ⟨e4, e5⟩ := Prod.mk.inj h2
    subst e3 e4 e5 e6 e7 e8 e15
    exact ⟨n1, n2, n9, n10, n11, n12, n13, n14, oc, od, osl, c.lk _ _ lk, codeC_ok c.lk k1⟩
theorem keep_fn {F : Frag} {a : Addr} {oc : Value} {od : Option Addr} {fd : FuncData} {osl : Array (Option Value)} (h : F.lookup a = some ⟨oc, od, .func fd, osl⟩) : PySem.W.keepIn F (.ref a) = true := by
  unfold PySem.W.keepIn
  show (match F.lookup a with
    | some ⟨_, _, .func _, _⟩ => true
    | some ⟨_, _, .cls _, _⟩ => PySem.W.specialIn F (.ref a) "__call__" == some (some (.builtin "type.__call__"))
    | _ => false) = true
  rw [h]
theorem AllC.def_ (a : AllC PP fas K E F) {p : Str × Def1} (hp : p ∈ PP.defs) : (p.1 == ("__debug__" : Str)) = false ∧ isRefE E p.1 = true ∧ dfC K (gaE E p.1) p.2 = true := by
  obtain ⟨h1, e⟩ := He.ba (all_mem a.defs hp)
  obtain ⟨h2, h3⟩ := He.ba e
  exact ⟨ndb h1, h2, h3⟩
theorem dfC_keep {K : Lk} {F : Frag} (hK : ∀ a o, K a = some o → F.lookup a = some o) {a : Addr} {d : Def1} (h : dfC K a d = true) : PySem.W.keepIn F (.ref a) = true := by
  unfold dfC at h
  cases e : funAt K a with
  | none => rw [e] at h; cases h
  | some fd =>
    obtain ⟨oc, od, osl, lk⟩ := funAt_some e
    exact keep_fn (hK _ _ lk)
theorem AllC.cl_ (a : AllC PP fas K E F) {c : Str} {ms : List (Str × Def1)} (hp : (c, ms) ∈ PP.clss) (hn : ms ≠ []) : He.Fa.ok F (.glo c) = true ∧ (c == ("__debug__" : Str)) = false ∧ He.Fa.ok F (.cls c) = true ∧ He.Fa.ok F (.mkr c) = true ∧ ∀ m ∈ ms, He.Fa.ok F (.meth c m.1) = true := by
  have e := all_mem a.cls hp
  cases ms with
  | nil => exact absurd rfl hn
  | cons m0 ms =>
    obtain ⟨h1, e⟩ := He.ba e
    obtain ⟨h2, e⟩ := He.ba e
    obtain ⟨h3, e⟩ := He.ba e
    obtain ⟨h4, h5⟩ := He.ba e
    exact ⟨h1, ndb h2, h3, h4, fun m hm => all_mem h5 hm⟩
theorem facts_of (c : SaysK PP fas tt h F K E) (G : h.Ns mainGlobals mg) {Pr : Program} {w : World} {T : List (Addr × Str)} {base : Heap} : Facts ⟨Pr, w, F, mg, T, base⟩ PP := by
  have a := c.all
  refine ⟨c.free G a.rng, c.free G a.zip, c.free G a.enm, fun x f Ca hf hg => ?_, fun x d hx => ?_⟩
  · unfold isFld at hf
    split at hf
    · rename_i l hl
      have hm := look_mem hl
      have e := all_mem a.fld hm
      cases l with
      | nil => cases hf
      | cons f0 r =>
        obtain ⟨h1, e⟩ := He.ba e
        obtain ⟨h2, e⟩ := He.ba e
        have hg : mg x = some (.ref Ca) := hg
        have h1 := He.glo_ok c.kin G h1
        rw [hg] at h1
        have eC : Ca = He.ga F x := by
          injection h1 with h1
          injection h1
        subst eC
        exact ⟨He.cls_ok h2, He.noat_ok (all_mem e (hasS_iff.mp hf))⟩
    · cases hf
  · unfold gloName at hx
    split at hx
    · rename_i d' hl
      cases hx
      obtain ⟨h1, h2⟩ := He.ba (all_mem a.csts (look_mem hl))
      refine ⟨ndb h1, .inl ?_⟩
      split at h2
      · rename_i u e
        obtain ⟨v, h3, h4⟩ := cstC_ok h2
        exact ⟨v, u, PySem.W.mg_of c.kin G (c.ns e), h3, fun ρ H cl => h4 _ ρ H cl c.lk⟩
      · cases h2
    · rename_i hcs
      split at hx
      · rename_i hd
        cases hx
        obtain ⟨dd, hl⟩ := look_of hd
        obtain ⟨h1, h2, _⟩ := a.def_ (look_mem hl)
        exact ⟨h1, .inl ⟨.ref (gaE E x), .ref (gaE E x), c.glo G h2, rfl, fun ρ H cl => ⟨_, c.glo G h2, rfl⟩⟩⟩
      · rename_i hd
        split at hx
        · cases hx
        · rename_i hc
          obtain ⟨Tn, hT, hx⟩ := opt_some hx
          cases hx
          have hm := look_mem hT
          have e := all_mem a.tys hm
          have e : (hasK x PP.csts || hasK x PP.defs || hasK x PP.clss || freeE E x) = true := e
          rw [hasK_none hcs, hd, hc] at e
          have e : freeE E x = true := by simpa using e
          have hn := c.free G e
          have fin : (x == ("__debug__" : Str)) = false ∧ x ≠ "__name__" ∧ bootBuiltins x = some (.type Tn) := by
            simp only [tyNames, List.mem_cons, Prod.mk.injEq, List.mem_nil_iff, or_false] at hm
            rcases hm with ⟨rfl, rfl⟩ | ⟨rfl, rfl⟩ | ⟨rfl, rfl⟩ | ⟨rfl, rfl⟩ <;> exact ⟨by decide, by decide, by decide +kernel⟩
          exact ⟨fin.1, .inr ⟨hn, fin.2.1, Tn, rfl, fin.2.2⟩⟩
theorem factsC_of (c : SaysK PP fas tt h F K E) (G : h.Ns mainGlobals mg) {Pr : Program} {w : World} {T : List (Addr × Str)} {base : Heap} : FactsC ⟨Pr, w, F, mg, T, base⟩ PP := by
  have a := c.all
  refine ⟨fun x hx => ?_, fun x ms hl hi => ?_, fun x ms m Ca hl hi hg => ?_, fun x b hl h1 h2 h3 => ?_⟩
  · obtain ⟨dd, hl⟩ := look_of hx
    obtain ⟨h1, h2, h3⟩ := a.def_ (look_mem hl)
    exact ⟨h1, _, c.glo G h2, dfC_keep c.lk h3⟩
  · obtain ⟨d, hd⟩ := look_of hi
    have hm := look_mem hd
    obtain ⟨h1, h2, h3, h4, h5⟩ := a.cl_ (look_mem hl) (fun z => by rw [z] at hm; cases hm)
    exact ⟨h2, _, _, He.glo_ok c.kin G h1, He.mkr_ok h4, He.meth_ok (h5 _ hm)⟩
  · obtain ⟨d, hd⟩ := look_of hi
    have hm := look_mem hd
    obtain ⟨h1, h2, h3, h4, h5⟩ := a.cl_ (look_mem hl) (fun z => by rw [z] at hm; cases hm)
    have hg : mg x = some (.ref Ca) := hg
    have h1 := He.glo_ok c.kin G h1
    rw [hg] at h1
    have eC : Ca = He.ga F x := by
      injection h1 with h1
      injection h1
    subst eC
    exact ⟨He.cls_ok h3, _, He.meth_ok (h5 _ hm)⟩
  · have e := all_mem a.blt (look_mem hl)
    have e : (hasK x PP.defs || hasK x PP.clss || hasK x PP.csts || match isGcd b with
      | true => gcdE E x
      | false => freeE E x) = true := e
    rw [h1, hasK_none h2, h3] at e
    show mg x = _
    cases hb : isGcd b with
    | true =>
      rw [hb] at e
      have e : gcdE E x = true := by simpa using e
      unfold gcdE at e
      split at e
      · rename_i n q
        have := of_decide_eq_true e
        subst this
        exact PySem.W.mg_of c.kin G (c.ns q)
      · cases e
    | false =>
      rw [hb] at e
      exact c.free G (by simpa using e)
theorem codeAd_eq {K : Lk} {a : Addr} {fd : FuncData} {c : Addr} (h : funAt K a = some fd) (hc : fd.code = .ref c) : codeAd K a = c := by
  unfold codeAd
  rw [h]
  show (match fd.code with
    | .ref c => c
    | _ => 0) = c
  rw [hc]
theorem beq_self (n : Nat) : Nat.beq n n = true := Nat.beq_refl n
theorem uniqT {T : List (Addr × Str)} (h : (T.all fun a => T.all fun b => !Nat.beq a.1 b.1 || eqS a.2 b.2) = true) {a b : Addr × Str} (ha : a ∈ T) (hb : b ∈ T) (e : b.1 = a.1) : b.2 = a.2 := by
  have q := all_mem (all_mem h ha) hb
  rw [e, beq_self] at q
  exact (eqS_iff.mp (by simpa using q)).symm
theorem eqNames_of {a b : List Str} (h : eqNames a b = true) : a = b := eqNames_iff h
theorem defAt_of {g : G} {K : Lk} (hK : ∀ a o, K a = some o → g.K.lookup a = some o) {d : Def1} {a : Addr} (h1 : dfC K a d = true) (h2 : bsAt K a = bsOf d)
    (hl : d.lam = true → LamX.TabB g.base g.mg (cpOf K a).1 (cpOf K a).2 ∧ ((cpOf K a).2, d.qual ++ "<lambda>") ∈ g.T ∧ ∀ p ∈ g.T, p.1 = (cpOf K a).2 → p.2 = d.qual ++ "<lambda>") : DefAt g d a := by
  unfold dfC at h1
  unfold bsAt at h2
  cases e : funAt K a with
  | none => rw [e] at h1; cases h1
  | some fd =>
    have hcp : cpOf K a = (codeAd K a, tabAd K (codeAd K a)) := rfl
    have hcd : ∀ c, fd.code = .ref c → codeAd K a = c := fun c hc => codeAd_eq e hc
    rw [e] at h1 h2
    obtain ⟨oc, od, osl, lk⟩ := funAt_some e
    obtain ⟨n1, n2, n3, n4, n5, n6, n7, n8, n9, n10, n11, n12, n13, n14, n15⟩ := fd
    obtain ⟨k1, h1⟩ := He.ba h1
    obtain ⟨k2, h1⟩ := He.ba h1
    obtain ⟨k3, h1⟩ := He.ba h1
    obtain ⟨k4, h1⟩ := He.ba h1
    obtain ⟨k5, h1⟩ := He.ba h1
    obtain ⟨k6, h1⟩ := He.ba h1
    obtain ⟨k7, k8⟩ := He.ba h1
    have e6 : n6 = mainGlobals := Nat.eq_of_beq_eq_true k5
    have e7 : n7 = [] := List.isEmpty_iff.mp k6
    have e15 : n15 = builtinsNs := Nat.eq_of_beq_eq_true k7
    have h2 : (some (n4, n5) : BS) = some (.stmts d.body, d.scope) := h2
    injection h2 with h2
    obtain ⟨e4, e5⟩ := Prod.mk.inj h2
    subst e4 e5 e6 e7 e15
    have k2 : d.qual = n2 ++ ".<locals>." := eqS_iff.mp k2
    obtain ⟨cA, hc⟩ := He.codeIn_ref (codeC_ok hK k1)
    refine ⟨n1, n2, n3, n8, n9, n10, n11, n13, n14, oc, n12, od, osl, hK _ _ lk, codeC_ok hK k1, k2, k3, eqNames_iff k4, dflC_ok hK k8, fun hlam => ?_⟩
    obtain ⟨t1, t2, t3⟩ := hl hlam
    have ec : codeAd K a = cA := hcd cA hc
    rw [hcp, ec] at t1 t2 t3
    exact ⟨cA, _, hc, t1, t2, t3⟩
theorem factsD_of (c : SaysK PP fas tt h F K E) (G : h.Ns mainGlobals mg) {Pr : Program} {w : World} {base : Heap} (hok : ((PP.defs.all fun p => defOk p.2) && (methsOf PP).all fun m => defOk m.2.2) = true)
    (hTB : ∀ p ∈ csOf PP K E, LamX.TabB base mg p.1 p.2) : FactsD ⟨Pr, w, F, mg, tOf PP K E, base⟩ PP := by
  have a := c.all
  obtain ⟨ok1, ok2⟩ := He.ba hok
  refine ⟨fun x d hx => ⟨all_mem ok1 (look_mem hx), fun f hf => ?_⟩, fun cn ms m d Ca f hl hm hg hM => ?_⟩
  · have hp := look_mem hx
    obtain ⟨h1, h2, h4⟩ := a.def_ hp
    have hf : mg x = some (.ref f) := hf
    have h2 := c.glo G h2
    rw [hf] at h2
    have eC : f = gaE E x := by
      injection h2 with h2
      injection h2
    subst eC
    refine defAt_of c.lk h4 (c.bs hp) fun hlam => ?_
    have hmem : (x, d) ∈ lamDs PP := List.mem_filter.mpr ⟨hp, hlam⟩
    have hT : ((cpOf K (gaE E x)).2, d.qual ++ "<lambda>") ∈ tOf PP K E := List.mem_map.mpr ⟨(x, d), hmem, rfl⟩
    refine ⟨hTB _ (List.mem_map.mpr ⟨(x, d), hmem, rfl⟩), hT, fun p hp e => ?_⟩
    exact uniqT (He.ba a.tabs).2 hT hp e
  · have hmm : (cn, m, d) ∈ methsOf PP := List.mem_flatMap.mpr ⟨(cn, ms), look_mem hl, List.mem_map.mpr ⟨(m, d), look_mem hm, rfl⟩⟩
    have hms : ms ≠ [] := fun z => by
      have := look_mem hm
      rw [z] at this
      cases this
    obtain ⟨h1, h2, h3, h4, h5⟩ := a.cl_ (look_mem hl) hms
    have hg : mg cn = some (.ref Ca) := hg
    have h1 := He.glo_ok c.kin G h1
    rw [hg] at h1
    have eC : Ca = He.ga F cn := by
      injection h1 with h1
      injection h1
    subst eC
    have m1 := (He.meth_ok (h5 _ (look_mem hm))).at_
    have m2 := hM.at_
    have eF : f = He.ma F (He.ga F cn) m := by
      have z := m2.symm.trans m1
      injection z with z
      injection z with z
      injection z
    subst eF
    obtain ⟨k1, k2⟩ := He.ba (all_mem a.mths hmm)
    refine ⟨all_mem ok2 hmm, defAt_of c.lk k2 (c.bm hmm) fun hlam => ?_⟩
    have hlam : d.lam = true := hlam
    have k1 : (!d.lam) = true := k1
    rw [hlam] at k1
    cases k1
end
end K76
end

/-! text Emp -/
section
set_option maxHeartbeats 1000000
namespace K76
open PySem PySem.Spec PyProof.Rows L2
/-! ### the def that raises and catches -/
/-- X(), an own exception class without its own __init__ -/
theorem pmk_own0 {X : Cx} {C : Addr} {bmB : List Value} {B newId initId : String} {x : Str} {p pos : Pos} (F : ExcBaseFacts B newId initId bmB) (q : PySem.W.excIn X.K C bmB newId = true) (gC : X.mg x = some (.ref C))
    (kC : PySem.W.keepIn X.K (.ref C) = true) (r : Raises X (.ref C)) (hg : Gl X x) (hdb : (x == ("__debug__" : Str)) = false := by decide) :
    PMk X (.Call (.Name x p) [] [] pos) (fun _ H Q => Q (.ref C) none H) := by
  intro pins s σ H Q I h
  refine wpAny_Call_Name_kw (ld_glob I hg gC ?_ hdb)
  refine PySem.W.callWith_K0 I.kIn kC ?_
  show wpAny _ _ (call (.ref C) []) _ _ _
  obtain ⟨bm, N, nm, qn, bs, hdct, sn, sub, ab, col, dd, k0, k1, k2, k3, k5, mN, hC, hN, hni, T⟩ := exc_obj I.kIn q
  exact wpAny_call_exc_subT F T hC hN hni (fun h' e hm => mk_of I hm r h (I.hok.gone hm.new)) (Nat.zero_le _)
def isTup2 : Expr → Bool
  | .Tuple [.Constant (.int _) _ _, .Constant (.int _) _ _] _ _ => true
  | _ => false
theorem isTup2_eq {e : Expr} (h : isTup2 e = true) : ∃ i a p j b q k r, e = .Tuple [.Constant (.int i) a p, .Constant (.int j) b q] k r := by
  unfold isTup2 at h
  split at h
  · exact ⟨_, _, _, _, _, _, _, _, rfl⟩
  · cases h
def solidOk (b : List Stmt) : Bool := match b with
  | [.For (.Tuple _ _ _) (.Call (.Name e _) [.Name r _] [] _) _ [] _, .If (.Compare (.Call (.Name l _) [.Name r2 _] [] _) [.Eq] [.Constant (.int i) _ _] _) [.Raise (some (.Call (.Name x _) [] [] _)) none _] [] _, .Return _ _] =>
    eqS e "enumerate" && (eqS r "roots" && (eqS l "len" && (eqS r2 "roots" && (eqS x "EmptySolid" && decide (i = 0)))))
  | _ => false
theorem solidOk_eq {b : List Stmt} (h : solidOk b = true) : ∃ ts k1 p1 p2 p3 p4 fb p5 p6 p7 p8 a p9 p10 p11 p12 p13 p14 o p15, b = [.For (.Tuple ts k1 p1) (.Call (.Name "enumerate" p2) [.Name "roots" p3] [] p4) fb [] p5,
    .If (.Compare (.Call (.Name "len" p6) [.Name "roots" p7] [] p8) [.Eq] [.Constant (.int 0) a p9] p10) [.Raise (some (.Call (.Name "EmptySolid" p11) [] [] p12)) none p13] [] p14, .Return o p15] := by
  unfold solidOk at h
  split at h
  · obtain ⟨h1, h⟩ := He.ba h
    obtain ⟨h2, h⟩ := He.ba h
    obtain ⟨h3, h⟩ := He.ba h
    obtain ⟨h4, h⟩ := He.ba h
    obtain ⟨h5, h6⟩ := He.ba h
    have h1 := eqS_iff.mp h1
    have h2 := eqS_iff.mp h2
    have h3 := eqS_iff.mp h3
    have h4 := eqS_iff.mp h4
    have h5 := eqS_iff.mp h5
    have h6 := of_decide_eq_true h6
    subst h1 h2 h3 h4 h5 h6
    exact ⟨_, _, _, _, _, _, _, _, _, _, _, _, _, _, _, _, _, _, _, _, rfl⟩
  · cases h
def emptyOk (b : List Stmt) : Bool := match b with
  | [.Try [.If (.Name n _) [.Expr (.Call (.Name x _) [] [⟨some k, e1, _⟩] _) _] [.Expr (.Call (.Name x2 _) [e2] [] _) _] _] [.ExceptHandler (some (.Name y _)) none [.Return (some (.Constant (.str z) _ _)) _] _] [] [] _, .Return _ _] =>
    eqS n "_law_n" && (eqS x "solid_of" && (eqS x2 "solid_of" && (eqS k "space" && (eqS y "EmptySolid" && (eqS z "empty" && (isTup2 e1 && isTup2 e2))))))
  | _ => false
theorem emptyOk_eq {b : List Stmt} (h : emptyOk b = true) : ∃ e1 e2 p1 p2 p3 p4 p5 p6 p7 p8 p9 p10 a p11 p12 p13 p14 o p15, isTup2 e1 = true ∧ isTup2 e2 = true ∧
    b = [.Try [.If (.Name "_law_n" p1) [.Expr (.Call (.Name "solid_of" p2) [] [⟨some "space", e1, p3⟩] p4) p5] [.Expr (.Call (.Name "solid_of" p6) [e2] [] p7) p8] p9]
      [.ExceptHandler (some (.Name "EmptySolid" p10)) none [.Return (some (.Constant (.str "empty") a p11)) p12] p13] [] [] p14, .Return o p15] := by
  unfold emptyOk at h
  split at h
  · obtain ⟨h1, h⟩ := He.ba h
    obtain ⟨h2, h⟩ := He.ba h
    obtain ⟨h3, h⟩ := He.ba h
    obtain ⟨h4, h⟩ := He.ba h
    obtain ⟨h5, h⟩ := He.ba h
    obtain ⟨h6, h⟩ := He.ba h
    obtain ⟨h7, h8⟩ := He.ba h
    have h1 := eqS_iff.mp h1
    have h2 := eqS_iff.mp h2
    have h3 := eqS_iff.mp h3
    have h4 := eqS_iff.mp h4
    have h5 := eqS_iff.mp h5
    have h6 := eqS_iff.mp h6
    subst h1 h2 h3 h4 h5 h6
    exact ⟨_, _, _, _, _, _, _, _, _, _, _, _, _, _, _, _, _, _, _, h7, h8, rfl⟩
  · cases h
/-- the row of parameters (space, *roots) -/
def starPar (a : Arguments) : Bool := match a with
  | ⟨[], [⟨x, _, _⟩], some ⟨y, _, _⟩, [], [], none, []⟩ => eqS x "space" && eqS y "roots"
  | _ => false
theorem starPar_eq {a : Arguments} (h : starPar a = true) : ∃ an1 p1 an2 p2, a = ⟨[], [⟨"space", an1, p1⟩], some ⟨"roots", an2, p2⟩, [], [], none, []⟩ := by
  unfold starPar at h
  split at h
  · obtain ⟨h1, h2⟩ := He.ba h
    have h1 := eqS_iff.mp h1
    have h2 := eqS_iff.mp h2
    subst h1 h2
    exact ⟨_, _, _, _, rfl⟩
  · cases h
theorem bind_solid {name qual : Str} {an1 an2 : Option Expr} {p1 p2 : Pos} {body : List Stmt} {scope : Scope} {kV doc pm cdv ct : Value} {an : Option Addr} (u : Value) :
    bindArgs (PySem.W.fnOf name qual ⟨[], [⟨"space", an1, p1⟩], some ⟨"roots", an2, p2⟩, [], [], none, []⟩ body scope .none kV doc pm an cdv ct) ⟨[u], []⟩ = (newTuple [] >>= fun t => pure [(("space" : Str), u), (("roots" : Str), t)]) := by rfl
theorem bind_solidK {name qual : Str} {an1 an2 : Option Expr} {p1 p2 : Pos} {body : List Stmt} {scope : Scope} {kV doc pm cdv ct : Value} {an : Option Addr} (u : Value) :
    bindArgs (PySem.W.fnOf name qual ⟨[], [⟨"space", an1, p1⟩], some ⟨"roots", an2, p2⟩, [], [], none, []⟩ body scope .none kV doc pm an cdv ct) ⟨[], [(("space" : Str), u)]⟩ = (newTuple [] >>= fun t => pure [(("space" : Str), u), (("roots" : Str), t)]) := by rfl
theorem never_pss {X : Cx} {l : List Stmt} : PSs X l (fun _ _ _ => False) := ⟨fun _ _ _ _ _ _ h => h.elim⟩
theorem never_ps {X : Cx} {l : Stmt} : PS X l (fun _ _ _ => False) := ⟨fun _ _ _ _ _ _ h => h.elim⟩
theorem never_pg {X : Cx} {l : Expr} : PG X l (fun _ _ _ _ => False) := ⟨fun _ _ _ _ _ _ _ _ _ h => h.elim⟩
/-- what is known of solid_of and of its exception -/
structure SolidAt (g : G) (CS fS : Addr) : Prop where
  fn : ∃ (name qual : Str) (params : Arguments) (body : List Stmt) (scope : Scope) (kV doc pm cdv ct oc : Value) (an od : Option Addr) (osl : Array (Option Value)), g.K.lookup fS = some ⟨oc, od, .func (PySem.W.fnOf name qual params body scope .none kV doc pm an cdv ct), osl⟩ ∧ PySem.W.codeIn g.K cdv qual = true ∧
    starPar params = true ∧ solidOk body = true ∧ FnScope ["space", "roots"] ["space", "roots"] scope ∧ isGlo scope "enumerate" = true ∧ isGlo scope "len" = true ∧ isGlo scope "EmptySolid" = true
  m1 : g.mg "enumerate" = none
  m2 : g.mg "len" = none
  m3 : g.mg "EmptySolid" = some (.ref CS)
  q : PySem.W.excIn g.K CS He.veBase "ValueError.__new__" = true
  kC : PySem.W.keepIn g.K (.ref CS) = true
  s1 : PySem.W.subIn g.K (.ref CS) (.type "BaseException") = some true
  s2 : PySem.W.typeIn g.K (.ref CS) = some (.type "type")
theorem solid_call {g : G} {CS fS : Addr} (T : SolidAt g CS fS) {A : Around} {outer : List Env} {s : Shared} {H : Hp} {v : V} {u : Value} {Q : VK} {E : XK} {args : Args} (ha : args = ⟨[u], []⟩ ∨ args = ⟨[], [(("space" : Str), u)]⟩) (hr : Room 1 A)
    (e0 : Env0 g.P g.w g.K g.mg g.base A outer s H) (r : RelV v u) (hE : ∀ p, H p = none → ∀ d, E (.ref CS) d (upd H p (.tup []))) :
    codeAny (model g.P g.w) A (.call (.ref fS) args) (CR (L2.CX g.P g.w) outer g.P g.w H s Q E) s := by
  obtain ⟨name, qual, params, body, scope, kV, doc, pm, cdv, ct, oc, an, od, osl, lk, hcd, hpar, hbo, FS, g1, g2, g3⟩ := T.fn
  obtain ⟨an1, p1, an2, p2, rfl⟩ := starPar_eq hpar
  have hn : H s.heap.objs.size = Option.none := e0.hok.fresh (Nat.le_refl _)
  refine StX.run_bnd (CX := L2.CX g.P g.w) lk hcd FS hr e0 (G := fun xs H2 => ∃ p, H p = none ∧ xs = [v, .ref p] ∧ H2 = upd H p (.tup [])) (fun A' Ex Q' h => ?_) fun s2 H2 xs ⟨p, hp, ex, eH⟩ hr' => ?_
  · have hb : bindArgs (PySem.W.fnOf name qual ⟨[], [⟨"space", an1, p1⟩], some ⟨"roots", an2, p2⟩, [], [], none, []⟩ body scope .none kV doc pm an cdv ct) args = (newTuple [] >>= fun t => pure [(("space" : Str), u), (("roots" : Str), t)]) := by
      rcases ha with rfl | rfl
      · exact bind_solid u
      · exact bind_solidK u
    rw [hb]
    refine wpAny_bind (wpAny_newTuple (wpAny_pure ?_) (Nat.zero_le _))
    have new : ObjOk g.P g.w (upd H s.heap.objs.size (.tup [])) (s.heap.push ({ cls := .type "tuple", data := .seq #[] } : Obj)) s.heap.objs.size (.tup []) := ⟨Nat.zero_le _, [], .nil, ⟨_, Heap.get?_push_size _ rfl, rfl, _, rfl⟩⟩
    have un := StX.un_laid (fs := frs outer) (s := s) (o := ({ cls := .type "tuple", data := .seq #[] } : Obj)) (u := .tup []) hn
    exact h _ _ [v, V.ref s.heap.objs.size] [u, Value.ref s.heap.objs.size] (StX.env0_laid e0 new) un rfl (fun e s' => StX.cxUp outer s H _ _ E e s' un (fun b o q => Heap.get?_push_of_some _ q) rfl) (.cons r (.cons rfl .nil)) rfl ⟨_, hn, rfl, rfl⟩
  · subst ex eH
    obtain ⟨ts, k1, q1, q2, q3, q4, fb, q5, q6, q7, q8, a, q9, q10, q11, q12, q13, q14, o, q15, rfl⟩ := solidOk_eq hbo
    have G1 := (scR_refl scope).glo _ g1
    have G2 := (scR_refl scope).glo _ g2
    have G3 := (scR_refl scope).glo _ g3
    have v1 : Vis scope "roots" := (FS.par "roots" (List.mem_cons_of_mem _ List.mem_cons_self)).elim .inl fun z => .inr (.inl z)
    refine ⟨_, pss_cons (ps_for (passes_of rfl) rfl (pi_enumT (X := cxOf (L2.CX g.P g.w) g.P g.w g.K g.mg g.base ["space", "roots"] qual scope fS cdv A outer s2 (upd H p (.tup [])) E) G1 T.m1 (pa_cons (pe_var (i := 1) rfl v1) pa_nil) rfl) never_pg never_pss)
      (pss_cons (ps_if (pt_cmp (pc_eqI (pe_callB call_len G2 T.m2 boot_len (pa_cons (pe_var (i := 1) rfl v1) pa_nil)) pe_int)) (pss_one (ps_raise rfl (takes_of rfl rfl rfl rfl) (pmk_own0 PySem.F.excBase_ValueError T.q T.m3 T.kC (raises_own T.s1 T.s2) G3))) pss_nil) never_pss), ?_⟩
    have hT : SqT g.K (upd H p (.tup [])) p [] := .inl (.inl upd_same)
    refine ⟨.ref p, rfl, p, [], rfl, hT, fun i _ σ' H' => i = 0 ∧ σ' = L2.start ["space", "roots"] [v, .ref p] ∧ H' = upd H p (.tup []), ⟨0, rfl, rfl, rfl⟩, ?_⟩
    rintro i m σ' H' ⟨rfl, rfl, rfl⟩
    refine .inl ⟨⟨[], hT, Nat.le_refl _⟩, ?_⟩
    refine ⟨.ref p, rfl, .ref p, 0, rfl, .inr ⟨[], hT, rfl⟩, ?_⟩
    refine ⟨0, 0, rfl, rfl, _, rfl, ?_⟩
    exact hE p hp none
/-- the call as an expression that raises -/
theorem pe_solid {g : G} {CS fS : Addr} (T : SolidAt g CS fS) {X : Cx} {W : WX} (hP : X.prog = g.P) (hw : X.w = g.w) (hK : X.K = g.K) (hm : X.mg = g.mg) (hb : X.base = g.base) (tk : Takes X W) (hr : Room 1 X.A) (hg : Gl X "solid_of") (mS : g.mg "solid_of" = some (.ref fS))
    {e : Expr} {te : TE} (he : PE X e te) {p kp pos : Pos} : PE X (.Call (.Name "solid_of" p) [] [⟨some "space", e, kp⟩] pos) (fun σ H _ => te σ H fun _ H1 => ∀ q, H1 q = none → ∀ d σ', W (.ref CS) d σ' (upd H1 q (.tup []))) ∧
      (starEach [e] X.env = [(false, eval e X.env)] → PE X (.Call (.Name "solid_of" p) [e] [] pos) (fun σ H _ => te σ H fun _ H1 => ∀ q, H1 q = none → ∀ d σ', W (.ref CS) d σ' (upd H1 q (.tup [])))) := by
  obtain ⟨name, qual, params, body, scope, kV, doc, pm, cdv, ct, oc, an, od, osl, lk, hcd, hpar, hbo, FS, g1, g2, g3⟩ := T.fn
  have kS : PySem.W.keepIn X.K (.ref fS) = true := by
    rw [hK]
    exact keep_fn lk
  have mX : X.mg "solid_of" = some (.ref fS) := by rw [hm]; exact mS
  have go : ∀ {pins : List (Addr × Obj)} {σ : L2.St} {H : Hp} {s : Shared} {v : V} {u : Value} {args : Args} {Q : VK}, Inv X pins σ H s → RelV v u → (args = ⟨[u], []⟩ ∨ args = ⟨[], [(("space" : Str), u)]⟩) → (∀ q, H q = none → ∀ d σ', W (.ref CS) d σ' (upd H q (.tup []))) →
      codeAny (model X.prog X.w) X.A (.call (.ref fS) args) (fun r s' => match r with
        | .ok (.ret u) => EP X pins σ Q u s'
        | .error e => X.xe e s'
        | _ => False) s := by
    intro pins σ H s v u args Q I rv ha hW
    have e0 := I.env0
    rw [hP, hw, hK, hm, hb] at e0
    have rc := solid_call T (Q := fun _ _ => False) (E := fun cls _ H' => ∀ d σ', W cls d σ' H') ha hr e0 rv (fun p hp d => fun d σ' => hW p hp d σ')
    rw [hP, hw]
    refine codeAny_mono rc fun r s' hq => ?_
    cases r with
    | error e =>
      refine passes_call tk (E := fun cls _ H' => ∀ d σ', W cls d σ' H') (fun cls d σ H h => h d σ) pins σ H s e s' I ?_
      rw [hP, hw]
      exact hq
    | ok fl =>
      cases fl with
      | ret u =>
        obtain ⟨v', H', _, _, _, _, _, q⟩ := hq
        exact q.elim
      | next => exact False.elim hq
      | brk => exact False.elim hq
      | cont => exact False.elim hq
  refine ⟨⟨fun pins s σ H Q I h => ?_⟩, fun hs => ⟨fun pins s σ H Q I h => ?_⟩⟩
  · refine wpAny_Call_Name_kw (ld_glob I hg mX ?_)
    refine PySem.W.callWith_KW0 (h₀ := X.base) (first := []) I.ok.mod.kin kS rfl ?_ rfl
    show wpAny _ _ (evalAll ((do let v ← eval e X.env; standAt pos; pure v) :: [])) _ _ s
    refine wpAny_evalAll_cons (wpAny_bind (thn (he.run pins s σ H _ I h) fun u s1 ⟨v, H1, I1, r1, q1⟩ => wpAny_bind (wpAny_standAt (wpAny_pure (wpAny_evalAll_nil ⟨I1.kIn, ?_⟩)))))
    refine wpAny_call (codeAny_mono (go (Q := Q) I1 r1 (.inr rfl) q1) fun r s' hq => ?_)
    cases r with
    | error e => exact hq
    | ok fl => cases fl <;> exact hq
  · refine wpAny_Call_Name_kw (ld_glob I hg mX ?_)
    have hs : starEach [e] X.env = (false, eval e X.env) :: starEach [] X.env := hs
    refine PySem.W.callWith_K (h₀ := X.base) I.ok.mod.kin kS ?_ hs (by rfl)
    rw [hs]
    show wpAny _ _ (spliced ((false, eval e X.env) :: backTo pos (starEach [] X.env))) _ _ s
    refine Calls.spliced_cons (thn (he.run pins s σ H _ I h) fun u s1 ⟨v, H1, I1, r1, q1⟩ => ?_)
    refine Calls.spliced_nil ⟨I1.kIn, ?_⟩
    refine wpAny_call (codeAny_mono (go (Q := Q) I1 r1 (.inl rfl) q1) fun r s' hq => ?_)
    cases r with
    | error e => exact hq
    | ok fl => cases fl <;> exact hq
theorem hand_ok {g : G} {CS fS : Addr} {dE : Def1} (T : SolidAt g CS fS) (mS : g.mg "solid_of" = some (.ref fS)) (ex : PySem.W.exmOne g.K (.ref CS) (.ref CS) = some true) (hdE : ∀ f, g.mg "_law_empty" = some (.ref f) → DefAt g dE f) (hok : defOk dE = true)
    (hps : dE.ps = [("_law_n" : Str)]) (hdl : dE.dfl = []) (hb : emptyOk dE.body = true) (h1 : isGlo dE.scope "solid_of" = true) (h2 : isGlo dE.scope "EmptySolid" = true) : HandOk g := by
  intro x d b A outer s H ρ S f us hx hr e0 R hf rv
  unfold byHand at hx
  split at hx
  · rename_i hxe
    have hxe := eqS_iff.mp hxe
    subst hxe
    cases hx
    obtain ⟨name, qual, params, dV, kV, doc, pm, cdv, ct, oc, an, od, osl, lk, hcd, hq, hpl, hps', hdf, hlam⟩ := (hdE f hf).fn
    have DS := defOk_s hok
    have FS := DS.fs
    rw [hps] at FS
    obtain ⟨names, dd, bb, hpar, rfl⟩ := plainA_eq hpl
    have hnm : [("_law_n" : Str)] = names.map (·.arg) := by rw [← hps, hps', hpar]; rfl
    obtain ⟨dv, hdv, hds⟩ : ∃ dv : List Value, dv = [] ∧ ∀ (M : Model) (A : Around) (E : Value → Shared → Prop) (Q : Option (Array Value) → Shared → Prop), (∀ o : Option (Array Value), (o.getD #[]).toList = dv → Q o s) → wpAny M A (seqItems? dV) Q E s := by
      have KX : g.K.In s.heap := e0.mod.kin.keeps fun b o e => (e0.bs b o e).1
      rcases hdf with ⟨rfl, hd⟩ | ⟨Tt, o, items, n, rfl, ho, hd, hrl⟩
      · refine ⟨[], rfl, fun M A E Q h => ?_⟩
        exact wpAny_pure (h none rfl)
      · refine ⟨items.toList, ?_, fun M A E Q h => wpAny_seqItems (KX _ _ ho) hd (h (some items) rfl)⟩
        have z := hrl ρ H bot
        rw [hdl] at z
        generalize items.toList = l at z ⊢
        cases z
        rfl
    subst hdv
    obtain ⟨u, rfl, ru⟩ := vals1 rv
    have hbt : BindsTo s (PySem.W.fnOf name qual params dE.body dE.scope dV kV doc pm an cdv ct) ⟨[u], []⟩ ([("_law_n" : Str)].zip [u]) := by
      have hbv : bindD (names.map (·.arg)) ([] : List Value) [u] [] = some [u] := by
        rw [← hnm]
        rfl
      have z := bind_wp (s := s) (fd := PySem.W.fnOf name qual params dE.body dE.scope dV kV doc pm an cdv ct) (us := [u]) (kws := []) ⟨_, _, hpar⟩ hds (by rw [← hnm]; decide) (Nat.zero_le _) hbv
      rw [← hnm] at z
      exact z
    have hN : dE.N[0]? = some ("_law_n" : Str) := by
      have z := FS.pre
      cases hN : dE.N with
      | nil => rw [hN] at z; cases z
      | cons x r =>
        rw [hN] at z
        have z : x :: r.take 0 = [("_law_n" : Str)] := z
        injection z with z1 z2
        rw [z1]
        rfl
    have v0 : Vis dE.scope "_law_n" := (FS.par "_law_n" List.mem_cons_self).elim .inl fun z => .inr (.inl z)
    have G1 := (scR_refl dE.scope).glo _ h1
    have G2 := (scR_refl dE.scope).glo _ h2
    obtain ⟨e1, e2, p1, p2, p3, p4, p5, p6, p7, p8, p9, p10, a, p11, p12, p13, p14, o, p15, t1, t2, hbody⟩ := emptyOk_eq hb
    obtain ⟨i1, a1, b1, j1, c1, d1, k1, r1, rfl⟩ := isTup2_eq t1
    obtain ⟨i2, a2, b2, j2, c2, d2, k2, r2, rfl⟩ := isTup2_eq t2
    refine codeAny_mono (LamX.run_ofS (CX := CXn) (k := 1) (E := fun _ _ _ => False) (Q := fun v H' => ∃ ρ', Pre ρ ρ' ∧ Le H H' ∧ Rel g bot ρ' S H' ∧ DV g ρ' H' bot (.str "empty") v) lk hcd FS hr e0 hbt (.cons ru .nil) rfl fun hr' => ?_) fun r s' hq => ?_
    · rw [hbody]
      refine ⟨_, pss_cons (ps_try_only (X := cxOf CXn g.P g.w g.K g.mg g.base dE.N qual dE.scope f cdv A outer s H fun _ _ _ => False) (c := .ref CS) rfl rfl ⟨G2, by decide, .inl T.m3⟩ LamX.takes0
        (fun W pn xe tk hpa => pss_one (ps_if (pt_val (pe_var (i := 0) hN v0)) (pss_one (ps_expr (pe_solid T rfl rfl rfl rfl rfl tk hr' G1 mS (pe_tup (pa_cons pe_int (pa_cons pe_int pa_nil)))).1))
          (pss_one (ps_expr ((pe_solid T (p := p6) (kp := p3) rfl rfl rfl rfl rfl tk hr' G1 mS (pe_tup (pa_cons pe_int (pa_cons pe_int pa_nil)))).2 rfl)))))
        (fun a oe cls d pn _ _ => pss_one (ps_ret pe_str))) never_pss, ?_⟩
      refine ⟨.bl b, rfl, b, rfl, ?_⟩
      have fin : ∀ p vs, H p = none → ∀ q, upd H p (.tup vs) q = none → ∃ ρ', Pre ρ ρ' ∧ Le H (upd (upd H p (.tup vs)) q (.tup [])) ∧ Rel g bot ρ' S (upd (upd H p (.tup vs)) q (.tup [])) ∧ DV g ρ' (upd (upd H p (.tup vs)) q (.tup [])) bot (.str "empty") (.str "empty") :=
        fun p vs hp q hq => ⟨ρ, Pre.refl _, (le_new hp).trans (le_new hq), (R.new hp).new hq, rfl⟩
      cases b with
      | true =>
        refine ⟨by rw [sizeLine_eq]; exact (by decide : 2 ≤ 16777216), fun p hp q hq d σ' => ⟨true, ex, fun _ a _ => fin p _ hp q hq, fun z => by cases z⟩⟩
      | false =>
        refine ⟨by rw [sizeLine_eq]; exact (by decide : 2 ≤ 16777216), fun p hp q hq d σ' => ⟨true, ex, fun _ a _ => fin p _ hp q hq, fun z => by cases z⟩⟩
    · cases r with
      | error e => exact hq.elim
      | ok fl => cases fl <;> exact hq
  · cases hx
end K76
end

/-! text Tape -/
section
set_option maxHeartbeats 2000000
namespace K76
open PySem PySem.Spec PyProof.Rows L2
/-! ### a def without defaults, told by hand -/
theorem fn_none {K : Lk} {F : Frag} (hK : ∀ a o, K a = some o → F.lookup a = some o) {a : Addr} {d : Def1} (h1 : dfC K a d = true) (h2 : bsAt K a = bsOf d) (hd : d.dfl = []) :
    ∃ (name qual : Str) (params : Arguments) (kV doc pm cdv ct oc : Value) (an od : Option Addr) (osl : Array (Option Value)), F.lookup a = some ⟨oc, od, .func (PySem.W.fnOf name qual params d.body d.scope .none kV doc pm an cdv ct), osl⟩ ∧ PySem.W.codeIn F cdv qual = true ∧
      plainA params = true ∧ d.ps = argNames params := by
  unfold dfC at h1
  unfold bsAt at h2
  cases e : funAt K a with
  | none => rw [e] at h1; cases h1
  | some fd =>
    rw [e] at h1 h2
    obtain ⟨oc, od, osl, lk⟩ := funAt_some e
    obtain ⟨n1, n2, n3, n4, n5, n6, n7, n8, n9, n10, n11, n12, n13, n14, n15⟩ := fd
    obtain ⟨k1, h1⟩ := He.ba h1
    obtain ⟨k2, h1⟩ := He.ba h1
    obtain ⟨k3, h1⟩ := He.ba h1
    obtain ⟨k4, h1⟩ := He.ba h1
    obtain ⟨k5, h1⟩ := He.ba h1
    obtain ⟨k6, h1⟩ := He.ba h1
    obtain ⟨k7, k8⟩ := He.ba h1
    have e6 : n6 = mainGlobals := Nat.eq_of_beq_eq_true k5
    have e7 : n7 = [] := List.isEmpty_iff.mp k6
    have e15 : n15 = builtinsNs := Nat.eq_of_beq_eq_true k7
    have k8 : dflC K d.dfl n8 = true := k8
    rw [hd] at k8
    have e8 : n8 = .none := by
      cases n8 with
      | none => rfl
      | _ => cases k8
    have h2 : (some (n4, n5) : BS) = some (.stmts d.body, d.scope) := h2
    injection h2 with h2
    obtain ⟨e4, e5⟩ := Prod.mk.inj h2
    subst e4 e5 e6 e7 e8 e15
    exact ⟨n1, n2, n3, n9, n10, n11, n13, n14, oc, n12, od, osl, hK _ _ lk, codeC_ok hK k1, k3, eqNames_iff k4⟩
theorem bind_none {s : Shared} {name qual : Str} {params : Arguments} {body : List Stmt} {scope : Scope} {kV doc pm cdv ct : Value} {an : Option Addr} {ps : List Str} {us : List Value} (hp : plainA params = true) (hps : ps = argNames params) (hl : us.length = ps.length) (nd : ps.Nodup) :
    BindsTo s (PySem.W.fnOf name qual params body scope .none kV doc pm an cdv ct) ⟨us, []⟩ (ps.zip us) := by
  obtain ⟨names, dd, bb, hpar, rfl⟩ := plainA_eq hp
  have hnm : ps = names.map (·.arg) := by rw [hps, hpar]; rfl
  rw [hnm] at nd hl ⊢
  have hbv : bindD (names.map (·.arg)) ([] : List Value) us [] = some us := by
    unfold bindD
    have e1 : Nat.ble us.length (names.map (·.arg)).length = true := Nat.ble_eq_true_of_le (Nat.le_of_eq hl)
    have e2 : (names.map (·.arg)).drop us.length = [] := List.drop_eq_nil_of_le (Nat.le_of_eq hl.symm)
    rw [e1, e2]
    show some (us ++ []) = some us
    rw [List.append_nil]
  exact bind_wp (s := s) (fd := PySem.W.fnOf name qual params body scope .none kV doc pm an cdv ct) (us := us) (kws := []) ⟨_, _, hpar⟩ (fun M A E Q h => wpAny_pure (h none rfl)) nd (Nat.zero_le _) hbv
theorem fs_other {N N' P : List Str} {sc : Scope} (S : FnScope N P sc) (nd : N'.Nodup) (pre : N'.take P.length = P) : FnScope N' P sc := ⟨S.kind, S.co, S.gen, nd, pre, S.par, by first | exact S.free | exact S.nofree | exact S.own⟩
/-- a call by FnR -/
theorem pe_fnr {X : Cx} {CX : CXT} {k : Nat} {f : Addr} {sp : Sp} {E : XK} {x : Str} {e : Expr} {es : List Expr} {t : TA} {p pos : Pos} (Fn : FnR X.prog X.w X.K X.mg X.base CX k f sp) (hr : Room k X.A) (hg : Gl X x) (hm : X.mg x = some (.ref f)) (hk : PySem.W.keepIn X.K (.ref f) = true)
    (hx : Passes CX X E) (ha : PA X (e :: es) t) (hdb : (x == ("__debug__" : Str)) = false := by decide) (he : starEach (e :: es) X.env = (false, eval e X.env) :: starEach es X.env := by rfl) (hpl : (backTo pos (starEach es X.env)).any (·.1) = false := by rfl) :
    PE X (.Call (.Name x p) (e :: es) [] pos) (fun σ H Q => t σ H fun vs H1 => sp vs H1 Q E) := by
  refine ⟨fun pins s σ H Q I h => ?_⟩
  refine wpAny_Call_Name_kw (ld_glob I hg hm ?_ hdb)
  exact PySem.W.callWith_K (h₀ := X.base) I.ok.mod.kin hk (thn (ha.run pos pins s σ H _ I h) fun us s1 ⟨vs, H1, I1, r1, q1⟩ => ⟨I1.kIn, wpAny_call (run_fnR Fn hr hx I1 r1 q1)⟩) he hpl
/-! ### the tape -/
def isC (i : Int) : Expr → Bool
  | .Constant (.int j) _ _ => decide (j = i)
  | _ => false
theorem isC_eq {i : Int} {e : Expr} (h : isC i e = true) : ∃ a p, e = .Constant (.int i) a p := by
  unfold isC at h
  split at h
  · have := of_decide_eq_true h
    subst this
    exact ⟨_, _, rfl⟩
  · cases h
def isV (x : Str) : Expr → Bool
  | .Name y _ => eqS y x
  | _ => false
theorem isV_eq {x : Str} {e : Expr} (h : isV x e = true) : ∃ p, e = .Name x p := by
  unfold isV at h
  split at h
  · have := eqS_iff.mp h
    subst this
    exact ⟨_, rfl⟩
  · cases h
def isBin (op : Operator) (f h : Expr → Bool) : Expr → Bool
  | .BinOp a o b _ => decide (o = op) && (f a && h b)
  | _ => false
theorem isBin_eq {op : Operator} {f h : Expr → Bool} {e : Expr} (q : isBin op f h e = true) : ∃ a b p, e = .BinOp a op b p ∧ f a = true ∧ h b = true := by
  unfold isBin at q
  split at q
  · obtain ⟨h1, q⟩ := He.ba q
    obtain ⟨h2, h3⟩ := He.ba q
    have := of_decide_eq_true h1
    subst this
    exact ⟨_, _, _, rfl, h2, h3⟩
  · cases q
def isCmp (op : CmpOp) (f h : Expr → Bool) : Expr → Bool
  | .Compare a [o] [b] _ => decide (o = op) && (f a && h b)
  | _ => false
theorem isCmp_eq {op : CmpOp} {f h : Expr → Bool} {e : Expr} (q : isCmp op f h e = true) : ∃ a b p, e = .Compare a [op] [b] p ∧ f a = true ∧ h b = true := by
  unfold isCmp at q
  split at q
  · obtain ⟨h1, q⟩ := He.ba q
    obtain ⟨h2, h3⟩ := He.ba q
    have := of_decide_eq_true h1
    subst this
    exact ⟨_, _, _, rfl, h2, h3⟩
  · cases q
def isCal (x : Str) (f : Expr → Bool) : Expr → Bool
  | .Call (.Name y _) [a] [] _ => eqS y x && f a
  | _ => false
theorem isCal_eq {x : Str} {f : Expr → Bool} {e : Expr} (q : isCal x f e = true) : ∃ a p1 p2, e = .Call (.Name x p1) [a] [] p2 ∧ f a = true := by
  unfold isCal at q
  split at q
  · obtain ⟨h1, h2⟩ := He.ba q
    have := eqS_iff.mp h1
    subst this
    exact ⟨_, _, _, rfl, h2⟩
  · cases q
def isAn (f h : Expr → Bool) : Expr → Bool
  | .BoolOp .And [a, b] _ => f a && h b
  | _ => false
theorem isAn_eq {f h : Expr → Bool} {e : Expr} (q : isAn f h e = true) : ∃ a b p, e = .BoolOp .And [a, b] p ∧ f a = true ∧ h b = true := by
  unfold isAn at q
  split at q
  · obtain ⟨h2, h3⟩ := He.ba q
    exact ⟨_, _, _, rfl, h2, h3⟩
  · cases q
def isSub (f h : Expr → Bool) : Expr → Bool
  | .Subscript a b _ => f a && h b
  | _ => false
theorem isSub_eq {f h : Expr → Bool} {e : Expr} (q : isSub f h e = true) : ∃ a b p, e = .Subscript a b p ∧ f a = true ∧ h b = true := by
  unfold isSub at q
  split at q
  · obtain ⟨h2, h3⟩ := He.ba q
    exact ⟨_, _, _, rfl, h2, h3⟩
  · cases q
/-- x = e -/
def isSet (f h : Expr → Bool) : Stmt → Bool
  | .Assign [a] e _ => f a && h e
  | _ => false
theorem isSet_eq {f h : Expr → Bool} {e : Stmt} (q : isSet f h e = true) : ∃ a b p, e = .Assign [a] b p ∧ f a = true ∧ h b = true := by
  unfold isSet at q
  split at q
  · obtain ⟨h2, h3⟩ := He.ba q
    exact ⟨_, _, _, rfl, h2, h3⟩
  · cases q
def isRet (f : Expr → Bool) : Stmt → Bool
  | .Return (some e) _ => f e
  | _ => false
theorem isRet_eq {f : Expr → Bool} {e : Stmt} (q : isRet f e = true) : ∃ a p, e = .Return (some a) p ∧ f a = true := by
  unfold isRet at q
  split at q
  · exact ⟨_, _, rfl, q⟩
  · cases q
def isLst2 (f h : Expr → Bool) : Expr → Bool
  | .List [a, b] _ => f a && h b
  | _ => false
theorem isLst2_eq {f h : Expr → Bool} {e : Expr} (q : isLst2 f h e = true) : ∃ a b p, e = .List [a, b] p ∧ f a = true ∧ h b = true := by
  unfold isLst2 at q
  split at q
  · obtain ⟨h2, h3⟩ := He.ba q
    exact ⟨_, _, _, rfl, h2, h3⟩
  · cases q
def isIf (f : Expr → Bool) (h k : List Stmt → Bool) : Stmt → Bool
  | .If e a b _ => f e && (h a && k b)
  | _ => false
theorem isIf_eq {f : Expr → Bool} {h k : List Stmt → Bool} {e : Stmt} (q : isIf f h k e = true) : ∃ c a b p, e = .If c a b p ∧ f c = true ∧ h a = true ∧ k b = true := by
  unfold isIf at q
  split at q
  · obtain ⟨h1, q⟩ := He.ba q
    obtain ⟨h2, h3⟩ := He.ba q
    exact ⟨_, _, _, _, rfl, h1, h2, h3⟩
  · cases q
def isFor (f h : Expr → Bool) (k : List Stmt → Bool) : Stmt → Bool
  | .For a e b [] _ => f a && (h e && k b)
  | _ => false
theorem isFor_eq {f h : Expr → Bool} {k : List Stmt → Bool} {e : Stmt} (q : isFor f h k e = true) : ∃ c a b p, e = .For c a b [] p ∧ f c = true ∧ h a = true ∧ k b = true := by
  unfold isFor at q
  split at q
  · obtain ⟨h1, q⟩ := He.ba q
    obtain ⟨h2, h3⟩ := He.ba q
    exact ⟨_, _, _, _, rfl, h1, h2, h3⟩
  · cases q
def isNil : List Stmt → Bool
  | [] => true
  | _ :: _ => false
theorem isNil_eq {l : List Stmt} (q : isNil l = true) : l = [] := by
  cases l with
  | nil => rfl
  | cons a r => cases q
def isCons (f : Stmt → Bool) (h : List Stmt → Bool) : List Stmt → Bool
  | [] => false
  | a :: r => f a && h r
theorem isCons_eq {f : Stmt → Bool} {h : List Stmt → Bool} {l : List Stmt} (q : isCons f h l = true) : ∃ a r, l = a :: r ∧ f a = true ∧ h r = true := by
  cases l with
  | nil => cases q
  | cons a r =>
    obtain ⟨h2, h3⟩ := He.ba q
    exact ⟨_, _, rfl, h2, h3⟩
def tapeOk : List Stmt → Bool := isCons (isSet (isV "_law_rest") (isC 0)) (isCons (isSet (isV "_law_mixed") (isV "_law_start")) (isCons (isFor (isV "_law_cell") (isV "_law_script") (isCons (isSet (isV "_law_size") (isCal "abs" (isCal "int" (isV "_law_cell")))) (isCons (isIf (isAn (isCmp .GtE (isV "_law_size") (isBin .Pow (isC 10) (isC 18))) (isCmp .Eq (isV "_law_rest") (isC 0))) (isCons (isSet (isV "_law_rest") (isV "_law_size")) isNil) (isCons (isSet (isV "_law_mixed") (isBin .Mod (isBin .Add (isBin .Add (isBin .Add (isBin .Mult (isV "_law_mixed") (isC 65539)) (isBin .Mod (isV "_law_size") (isC 2147483269))) (isBin .Mult (isC 2) (isCal "int" (isCmp .Lt (isV "_law_cell") (isC 0))))) (isC 1)) (isC 2147483269))) isNil)) isNil))) (isCons (isRet (isLst2 (isV "_law_rest") (isV "_law_mixed"))) isNil)))
def drawOk : List Stmt → Bool := isCons (isIf (isCmp .Gt (isSub (isV "_law_tape_here") (isC 0)) (isC 0)) (isCons (isSet (isV "_law_got") (isBin .Mod (isCal "int" (isSub (isV "_law_tape_here") (isC 0))) (isV "_law_many"))) (isCons (isSet (isSub (isV "_law_tape_here") (isC 0)) (isBin .FloorDiv (isCal "int" (isSub (isV "_law_tape_here") (isC 0))) (isV "_law_many"))) (isCons (isRet (isV "_law_got")) isNil))) isNil) (isCons (isSet (isSub (isV "_law_tape_here") (isC 1)) (isBin .Mod (isBin .Add (isBin .Mult (isCal "int" (isSub (isV "_law_tape_here") (isC 1))) (isC 31337)) (isC 4001)) (isC 2147483269))) (isCons (isRet (isBin .Mod (isBin .FloorDiv (isBin .Mult (isCal "int" (isSub (isV "_law_tape_here") (isC 1))) (isCal "int" (isSub (isV "_law_tape_here") (isC 1)))) (isC 2311)) (isV "_law_many"))) isNil))
abbrev tapeN : List Str := ["_law_script", "_law_start", "_law_rest", "_law_mixed", "_law_cell", "_law_size"]
def spTape (K : Frag) : Sp := fun vs H Q _ => ∃ (a : Addr) (ns : List Int) (n0 : Int), vs = [.ref a, .int n0] ∧ SqL K H a (ns.map V.int) ∧ ∀ p (r m : Int), H p = none → Q (.ref p) (upd H p (.lst [.int r, .int m]))
def locAll (sc : Scope) (l : List Str) : Bool := l.all fun x => match look x sc.names with
  | some .local => true
  | _ => false
theorem locAll_at {sc : Scope} {l : List Str} (h : locAll sc l = true) {x : Str} (hx : x ∈ l) : sc.names.lookup x = some .local := by
  have := all_mem h hx
  rw [look_eq] at this
  split at this
  · assumption
  · cases this
theorem if_bool {c : Bool} {P R : Prop} (hp : P) (hq : R) : if c = true then P else R := by
  cases c with
  | true => exact hp
  | false => exact hq
theorem if_neg' {P R : Prop} (hq : R) : if false = true then P else R := hq
theorem tape_fn {g : G} {CX : CXT} {f : Addr} {body : List Stmt} {scope : Scope} (hb : tapeOk body = true) (hl : locAll scope tapeN = true) (g1 : isGlo scope "abs" = true) (g2 : isGlo scope "int" = true) (m1 : g.mg "abs" = none) (m2 : g.mg "int" = none)
    {qual : Str} {cdv : Value} {A : Around} {outer : List Env} {s : Shared} {H : Hp} {vs : List V} {Q : VK} {E : XK} (h : spTape g.K vs H Q E) :
    ∃ t, PSs (cxOf CX g.P g.w g.K g.mg g.base tapeN qual scope f cdv A outer s H E) body t ∧ t { nx := fun _ H' => Q .non H', rt := Q } (L2.start tapeN vs) H := by
  obtain ⟨x2, x3, rfl, h0, h1⟩ := isCons_eq hb
  obtain ⟨x6, x7, p8, rfl, h4, h5⟩ := isSet_eq h0
  obtain ⟨_, rfl⟩ := isV_eq h4
  obtain ⟨_, _, rfl⟩ := isC_eq h5
  obtain ⟨x11, x12, rfl, h9, h10⟩ := isCons_eq h1
  obtain ⟨x15, x16, p17, rfl, h13, h14⟩ := isSet_eq h9
  obtain ⟨_, rfl⟩ := isV_eq h13
  obtain ⟨_, rfl⟩ := isV_eq h14
  obtain ⟨x20, x21, rfl, h18, h19⟩ := isCons_eq h10
  obtain ⟨x25, x26, x27, p28, rfl, h22, h23, h24⟩ := isFor_eq h18
  obtain ⟨_, rfl⟩ := isV_eq h22
  obtain ⟨_, rfl⟩ := isV_eq h23
  obtain ⟨x31, x32, rfl, h29, h30⟩ := isCons_eq h24
  obtain ⟨x35, x36, p37, rfl, h33, h34⟩ := isSet_eq h29
  obtain ⟨_, rfl⟩ := isV_eq h33
  obtain ⟨x39, p40, p41, rfl, h38⟩ := isCal_eq h34
  obtain ⟨x43, p44, p45, rfl, h42⟩ := isCal_eq h38
  obtain ⟨_, rfl⟩ := isV_eq h42
  obtain ⟨x48, x49, rfl, h46, h47⟩ := isCons_eq h30
  obtain ⟨x53, x54, x55, p56, rfl, h50, h51, h52⟩ := isIf_eq h46
  obtain ⟨x59, x60, p61, rfl, h57, h58⟩ := isAn_eq h50
  obtain ⟨x64, x65, p66, rfl, h62, h63⟩ := isCmp_eq h57
  obtain ⟨_, rfl⟩ := isV_eq h62
  obtain ⟨x69, x70, p71, rfl, h67, h68⟩ := isBin_eq h63
  obtain ⟨_, _, rfl⟩ := isC_eq h67
  obtain ⟨_, _, rfl⟩ := isC_eq h68
  obtain ⟨x74, x75, p76, rfl, h72, h73⟩ := isCmp_eq h58
  obtain ⟨_, rfl⟩ := isV_eq h72
  obtain ⟨_, _, rfl⟩ := isC_eq h73
  obtain ⟨x79, x80, rfl, h77, h78⟩ := isCons_eq h51
  obtain ⟨x83, x84, p85, rfl, h81, h82⟩ := isSet_eq h77
  obtain ⟨_, rfl⟩ := isV_eq h81
  obtain ⟨_, rfl⟩ := isV_eq h82
  cases isNil_eq h78
  obtain ⟨x88, x89, rfl, h86, h87⟩ := isCons_eq h52
  obtain ⟨x92, x93, p94, rfl, h90, h91⟩ := isSet_eq h86
  obtain ⟨_, rfl⟩ := isV_eq h90
  obtain ⟨x97, x98, p99, rfl, h95, h96⟩ := isBin_eq h91
  obtain ⟨x102, x103, p104, rfl, h100, h101⟩ := isBin_eq h95
  obtain ⟨x107, x108, p109, rfl, h105, h106⟩ := isBin_eq h100
  obtain ⟨x112, x113, p114, rfl, h110, h111⟩ := isBin_eq h105
  obtain ⟨x117, x118, p119, rfl, h115, h116⟩ := isBin_eq h110
  obtain ⟨_, rfl⟩ := isV_eq h115
  obtain ⟨_, _, rfl⟩ := isC_eq h116
  obtain ⟨x122, x123, p124, rfl, h120, h121⟩ := isBin_eq h111
  obtain ⟨_, rfl⟩ := isV_eq h120
  obtain ⟨_, _, rfl⟩ := isC_eq h121
  obtain ⟨x127, x128, p129, rfl, h125, h126⟩ := isBin_eq h106
  obtain ⟨_, _, rfl⟩ := isC_eq h125
  obtain ⟨x131, p132, p133, rfl, h130⟩ := isCal_eq h126
  obtain ⟨x136, x137, p138, rfl, h134, h135⟩ := isCmp_eq h130
  obtain ⟨_, rfl⟩ := isV_eq h134
  obtain ⟨_, _, rfl⟩ := isC_eq h135
  obtain ⟨_, _, rfl⟩ := isC_eq h101
  obtain ⟨_, _, rfl⟩ := isC_eq h96
  cases isNil_eq h87
  cases isNil_eq h47
  obtain ⟨x141, x142, rfl, h139, h140⟩ := isCons_eq h19
  obtain ⟨x144, p145, rfl, h143⟩ := isRet_eq h139
  obtain ⟨x148, x149, p150, rfl, h146, h147⟩ := isLst2_eq h143
  obtain ⟨_, rfl⟩ := isV_eq h146
  obtain ⟨_, rfl⟩ := isV_eq h147
  cases isNil_eq h140
  have L0 := locAll_at hl (x := "_law_script") (by simp)
  have L1 := locAll_at hl (x := "_law_start") (by simp)
  have L2 := locAll_at hl (x := "_law_rest") (by simp)
  have L3 := locAll_at hl (x := "_law_mixed") (by simp)
  have L4 := locAll_at hl (x := "_law_cell") (by simp)
  have L5 := locAll_at hl (x := "_law_size") (by simp)
  have G1 := (scR_refl scope).glo _ g1
  have G2 := (scR_refl scope).glo _ g2
  have nd : tapeN.Nodup := by decide
  have ab : bootBuiltins "abs" = some (.builtin "abs") := by decide +kernel
  have it : bootBuiltins "int" = some (.type "int") := by decide +kernel
  obtain ⟨a, ns, n0, rfl, hs, hQ⟩ := h
  refine ⟨_, pss_cons (ps_set (i := 2) nd rfl (.inl L2) pe_int) (pss_cons (ps_set (i := 3) nd rfl (.inl L3) (pe_var (i := 1) rfl (.inl L1))) (pss_cons (ps_for (passes_of rfl) rfl (pi_list (pe_var (i := 0) rfl (.inl L0))) (pg_name (i := 4) nd rfl (.inl L4))
    (pss_cons (ps_set (i := 5) nd rfl (.inl L5) (pe_callB call_abs G1 m1 ab (pa_cons (pe_callTy call_int1 G2 m2 it (pa_cons (pe_var (i := 4) rfl (.inl L4)) pa_nil)) pa_nil)))
      (pss_one (ps_if (pw_and (pt_cmp (pc_ge (pe_var (i := 5) rfl (.inl L5)) (pe_op op_pow pe_int pe_int))) (pw_and1 (pt_cmp (pc_eqI (pe_var (i := 2) rfl (.inl L2)) pe_int)))).pt
        (pss_one (ps_set (i := 2) nd rfl (.inl L2) (pe_var (i := 5) rfl (.inl L5))))
        (pss_one (ps_set (i := 3) nd rfl (.inl L3) (pe_op op_mod (pe_op op_add (pe_op op_add (pe_op op_add (pe_op op_mul (pe_var (i := 3) rfl (.inl L3)) pe_int) (pe_op op_mod (pe_var (i := 5) rfl (.inl L5)) pe_int))
          (pe_op op_mul pe_int (pe_callTy call_int1 G2 m2 it (pa_cons (pe_cmp (pc_lt (pe_var (i := 4) rfl (.inl L4)) pe_int)) pa_nil)))) pe_int) pe_int))))))) (pss_one (ps_ret (pe_lst (pa_cons (pe_var (i := 2) rfl (.inl L2)) (pa_cons (pe_var (i := 3) rfl (.inl L3)) pa_nil))))))), ?_⟩
  refine ⟨_, rfl, ?_⟩
  refine ⟨_, rfl, a, rfl, ⟨_, hs⟩, fun i m σ H' => H' = H ∧ i + m = ns.length ∧ ∃ (r q : Int) (c z : Option V), σ = [some (.ref a), some (.int n0), some (.int r), some (.int q), c, z], ⟨ns.length, rfl, Nat.zero_add _, 0, n0, none, none, rfl⟩, ?_⟩
  rintro i m σ H' ⟨rfl, him, r, q, c, z, rfl⟩
  by_cases hlt : i < ns.length
  · refine .inr ⟨⟨_, .int ns[i], hs, by rw [List.getElem?_map, List.getElem?_eq_getElem hlt]; rfl⟩, fun σ' H'' => H'' = H' ∧ (i + 1) + (m - 1) = ns.length ∧ ∃ (r q : Int) (c z : Option V), σ' = [some (.ref a), some (.int n0), some (.int r), some (.int q), c, z], fun σ' H'' w => ⟨m - 1, by omega, w⟩, ?_⟩
    rintro x H'' ⟨rfl, hx⟩
    have hx := hx _ hs
    rw [List.getElem?_map, List.getElem?_eq_getElem hlt] at hx
    cases hx
    refine ⟨_, rfl, .inl ⟨_, rfl, _, rfl, ?_⟩⟩
    refine ⟨_, rfl, 10, 18, rfl, rfl, ⟨by decide, by decide, by decide⟩, _, _, rfl, rfl, _, rfl, ?_⟩
    refine if_bool ?_ ?_
    · refine ⟨_, rfl, _, _, rfl, rfl, _, rfl, ?_⟩
      refine if_bool ?_ ?_
      · exact ⟨_, rfl, rfl, by omega, _, q, _, _, rfl⟩
      · exact ⟨_, rfl, _, _, rfl, rfl, .inr ⟨by decide, by decide⟩, _, rfl, _, _, rfl, rfl, (show (0 : Int) < 2147483269 from by decide), _, _, rfl, rfl, _, rfl, _, _, rfl, rfl, .inr ⟨_, rfl, 2, _, rfl, rfl, .inl ⟨by decide, by decide⟩, _, _, rfl, rfl, _, _, rfl, rfl, _, _, rfl, rfl, (show (0 : Int) < 2147483269 from by decide), rfl, by omega, r, _, _, _, rfl⟩⟩
    · refine if_neg' ?_
      exact ⟨_, rfl, _, _, rfl, rfl, .inr ⟨by decide, by decide⟩, _, rfl, _, _, rfl, rfl, (show (0 : Int) < 2147483269 from by decide), _, _, rfl, rfl, _, rfl, _, _, rfl, rfl, .inr ⟨_, rfl, 2, _, rfl, rfl, .inl ⟨by decide, by decide⟩, _, _, rfl, rfl, _, _, rfl, rfl, _, _, rfl, rfl, (show (0 : Int) < 2147483269 from by decide), rfl, by omega, r, _, _, _, rfl⟩⟩
  · refine .inl ⟨⟨_, hs, by rw [List.length_map]; omega⟩, ?_⟩
    exact ⟨_, rfl, _, rfl, by rw [sizeLine_eq]; exact (by decide : 2 ≤ 16777216), fun p hp => hQ p r q hp⟩
/-! ### the draw -/
abbrev drawN : List Str := ["_law_tape_here", "_law_many", "_law_got"]
def spDraw (K : Frag) : Sp := fun vs H Q _ => ∃ (p : Addr) (r m : Int), vs = [.ref p, .int 4] ∧ H p = some (.lst [.int r, .int m]) ∧ ∀ (k : Nat) (r' m' : Int), k < 4 → Q (.int (k : Nat)) (upd H p (.lst [.int r', .int m']))
theorem draw_fn {g : G} {CX : CXT} {f : Addr} {body : List Stmt} {scope : Scope} (hb : drawOk body = true) (hl : locAll scope drawN = true) (g2 : isGlo scope "int" = true) (m2 : g.mg "int" = none)
    {qual : Str} {cdv : Value} {A : Around} {outer : List Env} {s : Shared} {H : Hp} {vs : List V} {Q : VK} {E : XK} (h : spDraw g.K vs H Q E) :
    ∃ t, PSs (cxOf CX g.P g.w g.K g.mg g.base drawN qual scope f cdv A outer s H E) body t ∧ t { nx := fun _ H' => Q .non H', rt := Q } (L2.start drawN vs) H := by
  obtain ⟨x2, x3, rfl, h0, h1⟩ := isCons_eq hb
  obtain ⟨x7, x8, x9, p10, rfl, h4, h5, h6⟩ := isIf_eq h0
  obtain ⟨x13, x14, p15, rfl, h11, h12⟩ := isCmp_eq h4
  obtain ⟨x18, x19, p20, rfl, h16, h17⟩ := isSub_eq h11
  obtain ⟨_, rfl⟩ := isV_eq h16
  obtain ⟨_, _, rfl⟩ := isC_eq h17
  obtain ⟨_, _, rfl⟩ := isC_eq h12
  obtain ⟨x23, x24, rfl, h21, h22⟩ := isCons_eq h5
  obtain ⟨x27, x28, p29, rfl, h25, h26⟩ := isSet_eq h21
  obtain ⟨_, rfl⟩ := isV_eq h25
  obtain ⟨x32, x33, p34, rfl, h30, h31⟩ := isBin_eq h26
  obtain ⟨x36, p37, p38, rfl, h35⟩ := isCal_eq h30
  obtain ⟨x41, x42, p43, rfl, h39, h40⟩ := isSub_eq h35
  obtain ⟨_, rfl⟩ := isV_eq h39
  obtain ⟨_, _, rfl⟩ := isC_eq h40
  obtain ⟨_, rfl⟩ := isV_eq h31
  obtain ⟨x46, x47, rfl, h44, h45⟩ := isCons_eq h22
  obtain ⟨x50, x51, p52, rfl, h48, h49⟩ := isSet_eq h44
  obtain ⟨x55, x56, p57, rfl, h53, h54⟩ := isSub_eq h48
  obtain ⟨_, rfl⟩ := isV_eq h53
  obtain ⟨_, _, rfl⟩ := isC_eq h54
  obtain ⟨x60, x61, p62, rfl, h58, h59⟩ := isBin_eq h49
  obtain ⟨x64, p65, p66, rfl, h63⟩ := isCal_eq h58
  obtain ⟨x69, x70, p71, rfl, h67, h68⟩ := isSub_eq h63
  obtain ⟨_, rfl⟩ := isV_eq h67
  obtain ⟨_, _, rfl⟩ := isC_eq h68
  obtain ⟨_, rfl⟩ := isV_eq h59
  obtain ⟨x74, x75, rfl, h72, h73⟩ := isCons_eq h45
  obtain ⟨x77, p78, rfl, h76⟩ := isRet_eq h72
  obtain ⟨_, rfl⟩ := isV_eq h76
  cases isNil_eq h73
  cases isNil_eq h6
  obtain ⟨x81, x82, rfl, h79, h80⟩ := isCons_eq h1
  obtain ⟨x85, x86, p87, rfl, h83, h84⟩ := isSet_eq h79
  obtain ⟨x90, x91, p92, rfl, h88, h89⟩ := isSub_eq h83
  obtain ⟨_, rfl⟩ := isV_eq h88
  obtain ⟨_, _, rfl⟩ := isC_eq h89
  obtain ⟨x95, x96, p97, rfl, h93, h94⟩ := isBin_eq h84
  obtain ⟨x100, x101, p102, rfl, h98, h99⟩ := isBin_eq h93
  obtain ⟨x105, x106, p107, rfl, h103, h104⟩ := isBin_eq h98
  obtain ⟨x109, p110, p111, rfl, h108⟩ := isCal_eq h103
  obtain ⟨x114, x115, p116, rfl, h112, h113⟩ := isSub_eq h108
  obtain ⟨_, rfl⟩ := isV_eq h112
  obtain ⟨_, _, rfl⟩ := isC_eq h113
  obtain ⟨_, _, rfl⟩ := isC_eq h104
  obtain ⟨_, _, rfl⟩ := isC_eq h99
  obtain ⟨_, _, rfl⟩ := isC_eq h94
  obtain ⟨x119, x120, rfl, h117, h118⟩ := isCons_eq h80
  obtain ⟨x122, p123, rfl, h121⟩ := isRet_eq h117
  obtain ⟨x126, x127, p128, rfl, h124, h125⟩ := isBin_eq h121
  obtain ⟨x131, x132, p133, rfl, h129, h130⟩ := isBin_eq h124
  obtain ⟨x136, x137, p138, rfl, h134, h135⟩ := isBin_eq h129
  obtain ⟨x140, p141, p142, rfl, h139⟩ := isCal_eq h134
  obtain ⟨x145, x146, p147, rfl, h143, h144⟩ := isSub_eq h139
  obtain ⟨_, rfl⟩ := isV_eq h143
  obtain ⟨_, _, rfl⟩ := isC_eq h144
  obtain ⟨x149, p150, p151, rfl, h148⟩ := isCal_eq h135
  obtain ⟨x154, x155, p156, rfl, h152, h153⟩ := isSub_eq h148
  obtain ⟨_, rfl⟩ := isV_eq h152
  obtain ⟨_, _, rfl⟩ := isC_eq h153
  obtain ⟨_, _, rfl⟩ := isC_eq h130
  obtain ⟨_, rfl⟩ := isV_eq h125
  cases isNil_eq h118
  have L0 := locAll_at hl (x := "_law_tape_here") (by simp)
  have L1 := locAll_at hl (x := "_law_many") (by simp)
  have L2 := locAll_at hl (x := "_law_got") (by simp)
  have G2 := (scR_refl scope).glo _ g2
  have nd : drawN.Nodup := by decide
  have it : bootBuiltins "int" = some (.type "int") := by decide +kernel
  obtain ⟨p, r, m, rfl, hp, hQ⟩ := h
  have val : ∀ {i : Int}, PE (cxOf CX g.P g.w g.K g.mg g.base drawN qual scope f cdv A outer s H E) (.Constant (.int i) 0 default) (tC (.int i)) := pe_int
  refine ⟨_, pss_cons (ps_if (pt_cmp (pc_gt (pe_ix ix_list (pe_var (i := 0) rfl (.inl L0)) pe_int fun _ _ => rfl) pe_int))
      (pss_cons (ps_set (i := 2) nd rfl (.inl L2) (pe_op op_mod (pe_callTy call_int1 G2 m2 it (pa_cons (pe_ix ix_list (pe_var (i := 0) rfl (.inl L0)) pe_int fun _ _ => rfl) pa_nil)) (pe_var (i := 1) rfl (.inl L1))))
        (pss_cons (ps_asg (pe_op op_fdiv (pe_callTy call_int1 G2 m2 it (pa_cons (pe_ix ix_list (pe_var (i := 0) rfl (.inl L0)) pe_int fun _ _ => rfl) pa_nil)) (pe_var (i := 1) rfl (.inl L1))) (pg_sub (pe_var (i := 0) rfl (.inl L0)) pe_int set_list))
          (pss_one (ps_ret (pe_var (i := 2) rfl (.inl L2)))))) pss_nil)
    (pss_cons (ps_asg (pe_op op_mod (pe_op op_add (pe_op op_mul (pe_callTy call_int1 G2 m2 it (pa_cons (pe_ix ix_list (pe_var (i := 0) rfl (.inl L0)) pe_int fun _ _ => rfl) pa_nil)) pe_int) pe_int) pe_int) (pg_sub (pe_var (i := 0) rfl (.inl L0)) pe_int set_list))
      (pss_one (ps_ret (pe_op op_mod (pe_op op_fdiv (pe_op op_mul (pe_callTy call_int1 G2 m2 it (pa_cons (pe_ix ix_list (pe_var (i := 0) rfl (.inl L0)) pe_int fun _ _ => rfl) pa_nil)) (pe_callTy call_int1 G2 m2 it (pa_cons (pe_ix ix_list (pe_var (i := 0) rfl (.inl L0)) pe_int fun _ _ => rfl) pa_nil))) pe_int) (pe_var (i := 1) rfl (.inl L1)))))), ?_⟩
  have hs : SqL g.K H p [.int r, .int m] := .inl (.inl hp)
  refine ⟨_, rfl, p, _, 0, _, rfl, rfl, hs, rfl, _, _, rfl, rfl, _, rfl, ?_⟩
  have four : ∀ z : Int, ∃ k : Nat, k < 4 ∧ z % 4 = (k : Nat) := fun z => ⟨(z % 4).toNat, by omega, by omega⟩
  refine if_bool ?_ ?_
  · refine ⟨_, rfl, p, _, 0, _, rfl, rfl, hs, rfl, .inl ⟨_, rfl, _, rfl, _, _, rfl, rfl, (show (0 : Int) < 4 from by decide), ?_⟩⟩
    refine ⟨_, rfl, p, _, 0, _, rfl, rfl, hs, rfl, .inl ⟨_, rfl, _, rfl, _, _, rfl, rfl, ⟨by decide, by decide⟩, ?_⟩⟩
    refine ⟨_, rfl, p, _, 0, 0, rfl, rfl, hp, rfl, ?_⟩
    refine ⟨_, rfl, ?_⟩
    obtain ⟨k, hk, ek⟩ := four r
    show Q (.int (r % 4)) (upd H p (.lst [.int (r / 4), .int m]))
    rw [ek]
    exact hQ k _ _ hk
  · refine ⟨_, rfl, p, _, 1, _, rfl, rfl, hs, rfl, .inl ⟨_, rfl, _, _, rfl, rfl, .inr ⟨by decide, by decide⟩, _, _, rfl, rfl, _, _, rfl, rfl, (show (0 : Int) < 2147483269 from by decide), ?_⟩⟩
    refine ⟨_, rfl, p, _, 1, 1, rfl, rfl, hp, rfl, ?_⟩
    have hs' : SqL g.K (upd H p (.lst [.int r, .int ((m * 31337 + 4001) % 2147483269)])) p [.int r, .int ((m * 31337 + 4001) % 2147483269)] := .inl (.inl upd_same)
    refine ⟨_, rfl, p, _, 1, _, rfl, rfl, hs', rfl, .inl ⟨_, rfl, _, rfl, p, _, 1, _, rfl, rfl, hs', rfl, .inl ⟨_, rfl, _, _, rfl, rfl, .inl ⟨by omega, by omega⟩, _, _, rfl, rfl, ⟨by decide, by decide⟩, _, rfl, _, _, rfl, rfl, (show (0 : Int) < 4 from by decide), ?_⟩⟩⟩
    obtain ⟨k, hk, ek⟩ := four ((m * 31337 + 4001) % 2147483269 * ((m * 31337 + 4001) % 2147483269) / 2311)
    show Q (.int ((m * 31337 + 4001) % 2147483269 * ((m * 31337 + 4001) % 2147483269) / 2311 % 4)) (upd H p (.lst [.int r, .int ((m * 31337 + 4001) % 2147483269)]))
    rw [ek]
    exact hQ k _ _ hk
end K76
end

/-! text TopB -/
noncomputable section
namespace K76
open PySem
def P0 : Prog1 := mkProg1 lawP.main.body
/-! ### what is looked at behind the top -/
def topNames : List Stmt → List Str
  | [] => []
  | .FunctionDef n _ _ _ _ _ _ _ _ _ :: r => n :: topNames r
  | .ClassDef n _ _ _ _ _ _ _ _ _ _ :: r => n :: topNames r
  | .Assign [.Name x _] _ _ :: r => x :: topNames r
  | _ :: r => topNames r
def loose : List Str := (topNames lawP.main.body).filter fun x => !eqS x "law" && !eqS x "__name__"
def fas : List He.Fa := [.glo "EmptySolid", .exc "EmptySolid", .exm "EmptySolid" "EmptySolid" true]
def starD : Star := starOf "solid_of" lawP.main.body
def clsNames : List Str := ["WordReader", "PlanLines", "EmptySolid"]
abbrev hookL : PySem.W.Hook := hookK P0 fas starD clsNames
def viewQ : Program := PySem.W.view lawP [0, 293]
def obL (s : PySem.W.SharedT) : (Bool × Bool) × AlK := obsH P0 fas starD clsNames (HandSHeadRun.getT s)
theorem obL_eq (s : PySem.W.SharedT) : obL s = hookL.obs s.abs := by
  have e : HandSHeadRun.getT s = s.abs.heap.get? := funext (HandSHeadRun.getT_eq s)
  unfold obL
  rw [e]
  rfl
/-- what is looked at, off the tree -/
def obT (s : Shared) : Option ((Bool × Bool) × AlK) := match HandSHeadRun.treeOf s with
  | some x => HandSHeadRun.frS x fun x => some (obL x)
  | none => none
theorem obT_eq {s : Shared} {v : (Bool × Bool) × AlK} (h : obT s = some v) : hookL.obs s = v := by
  unfold obT at h
  cases e : HandSHeadRun.treeOf s with
  | none => rw [e] at h; cases h
  | some x =>
    rw [e] at h
    have h : (HandSHeadRun.frS x fun x => some (obL x)) = some v := h
    rw [HandSHeadRun.frS_eq, obL_eq, (HandSHeadRun.treeOf_eq e).1] at h
    exact Option.some.inj h
abbrev recX (s : Shared) : Bool := PySem.W.xlAt viewQ [] s && PySem.W.recOk (PySem.W.RowW.records (PySem.W.OpenRow.toRowW (PySem.W.OpenLaw.row PySem.Challenge.rw_wholefaces_k76_whole_names_a_to_c))) s
end K76
end

/-! text RunB -/
section
set_option maxHeartbeats 0
namespace K76
open PySem PySem.W PySem.Calls PyProof.Rows
/-! ### what is seen behind it, by the kernel -/
theorem look2 (w : World) : HandSHeadRun.seenQ viewQ loose (PySem.importedModules lawP.main.body) recX (stC w) = PySem.W.openGood viewQ loose := by kernel_rfl
theorem look3 (w : World) : obT (stC w) = some (hookL.val w) := by kernel_rfl
end K76
end

/-! text LawT -/
section
set_option maxHeartbeats 2000000
namespace K76
open PySem PySem.Spec PyProof.Rows L2
/-! ### the law's own def -/
def noDef : Def1 := ⟨[], [], [], ⟨.function, [], false, false, []⟩, [], [], false, ""⟩
def defN (x : Str) : Def1 := match look x P0.defs with
  | some d => d
  | none => noDef
theorem defN_look {x : Str} (h : hasK x P0.defs = true) : look x P0.defs = some (defN x) := by
  obtain ⟨d, e⟩ := look_of h
  unfold defN
  rw [e]
def lawD : Def1 := defN "law"
def lawC : Cx1 := ⟨P0, callB P0 60 24, lawD.N, lawD.scope, lawD.caps, lawD.lam, lawD.qual⟩
def slotOf (x : Str) : Nat := match findIx x lawD.N 0 with
  | some i => i
  | none => 0
def start0 (p : Int) : Env1 := setN (lawD.N.map fun _ => none) (slotOf "_law_part") (some (.int p))
/-- what the tail gives for each part -/
def TailOk : Prop := ∀ k : Nat, k < 4 → ∃ σ S, (run lawC 60).ss (lawD.body.drop 2) (start0 (k : Nat)) [] = some (.ret (.bl true), σ, S)
def isCal2 (x : Str) (f h : Expr → Bool) : Expr → Bool
  | .Call (.Name y _) [a, b] [] _ => eqS y x && (f a && h b)
  | _ => false
theorem isCal2_eq {x : Str} {f h : Expr → Bool} {e : Expr} (q : isCal2 x f h e = true) : ∃ a b p1 p2, e = .Call (.Name x p1) [a, b] [] p2 ∧ f a = true ∧ h b = true := by
  unfold isCal2 at q
  split at q
  · obtain ⟨h1, q⟩ := He.ba q
    obtain ⟨h2, h3⟩ := He.ba q
    have := eqS_iff.mp h1
    subst this
    exact ⟨_, _, _, _, rfl, h2, h3⟩
  · cases q
def lawOk : List Stmt → Bool := isCons (isSet (isV "_law_tape_here") (isCal2 "_law_tape" (isV "_law_script") (isC 71011))) (isCons (isSet (isV "_law_part") (isCal2 "_law_draw" (isV "_law_tape_here") (isC 4))) (fun _ => true))
/-- a plain def: there, in order, without defaults -/
def plainD (x : Str) (ps : List Str) : Bool := hasK x P0.defs && (defOk (defN x) && (eqNames (defN x).ps ps && (defN x).dfl.isEmpty))
def solidD : Def1 := ⟨["space", "roots"], [], starD.2.2.1, starD.2.2.2, ["space", "roots"], [], false, ""⟩
/-- the text's own facts -/
structure Stat : Prop where
  oks : ((P0.defs.all fun p => defOk p.2) && (methsOf P0).all fun m => defOk m.2.2) = true
  frees : ((["len", "abs", "int"] : List Str).all fun x => !hasK x P0.defs && (!hasK x P0.clss && !hasK x P0.csts)) = true
  solid : (starPar starD.2.1 && (solidOk starD.2.2.1 && (defOk solidD && (isGlo starD.2.2.2 "enumerate" && (isGlo starD.2.2.2 "len" && (isGlo starD.2.2.2 "EmptySolid" && eqS starD.1 "solid_of")))))) = true
  empty : (plainD "_law_empty" ["_law_n"] && (emptyOk (defN "_law_empty").body && (isGlo (defN "_law_empty").scope "solid_of" && isGlo (defN "_law_empty").scope "EmptySolid"))) = true
  tape : (plainD "_law_tape" ["_law_script", "_law_start"] && (tapeOk (defN "_law_tape").body && (locAll (defN "_law_tape").scope tapeN && (isGlo (defN "_law_tape").scope "abs" && isGlo (defN "_law_tape").scope "int")))) = true
  draw : (plainD "_law_draw" ["_law_tape_here", "_law_many"] && (drawOk (defN "_law_draw").body && (locAll (defN "_law_draw").scope drawN && isGlo (defN "_law_draw").scope "int"))) = true
  law : (plainD "law" ["_law_script"] && (lawOk lawD.body && (locAll lawD.scope ["_law_script", "_law_tape_here", "_law_part"] && (isGlo lawD.scope "_law_tape" && (isGlo lawD.scope "_law_draw" &&
    (hasS "_law_tape_here" lawD.N && (hasS "_law_part" lawD.N && (!lawD.lam && (lawD.caps.isEmpty && !Nat.beq (slotOf "_law_tape_here") (slotOf "_law_part")))))))))) = true
theorem plainD_ok {x : Str} {ps : List Str} (h : plainD x ps = true) : look x P0.defs = some (defN x) ∧ defOk (defN x) = true ∧ (defN x).ps = ps ∧ (defN x).dfl = [] := by
  obtain ⟨h1, h⟩ := He.ba h
  obtain ⟨h2, h⟩ := He.ba h
  obtain ⟨h3, h4⟩ := He.ba h
  exact ⟨defN_look h1, h2, eqNames_iff h3, List.isEmpty_iff.mp h4⟩
theorem findIx_has {x : Str} : ∀ {l : List Str} {n : Nat}, hasS x l = true → ∃ i, findIx x l n = some i
  | [], _, h => by cases h
  | y :: r, n, h => by
    rw [hasS] at h
    rw [findIx]
    cases q : eqS y x with
    | true => exact ⟨n, rfl⟩
    | false =>
      rw [q] at h
      exact findIx_has h
theorem slot_at {x : Str} (h : hasS x lawD.N = true) : lawD.N[slotOf x]? = some x := by
  obtain ⟨i, e⟩ := findIx_has (n := 0) h
  unfold slotOf
  rw [e]
  exact findIx_0 e
section
variable {h : Heap} {F : Frag} {K : Lk} {E : Es} {mg : Str → Option Value} {w : World} {base : Heap}
abbrev gOf (w : World) (F : Frag) (mg : Str → Option Value) (K : Lk) (E : Es) (base : Heap) : G := ⟨lawP, w, F, mg, tOf P0 K E, base⟩
theorem free_of (w : World) (base : Heap) (T : Stat) (c : SaysK P0 fas starD h F K E) (G : h.Ns mainGlobals mg) {x : Str} {b : BltK} (hx : x ∈ (["len", "abs", "int"] : List Str)) (hb : look x blts = some b) (hg : isGcd b = false) : mg x = none := by
  obtain ⟨h1, h2⟩ := He.ba (all_mem T.frees hx)
  obtain ⟨h2, h3⟩ := He.ba h2
  have z := (factsC_of c G (Pr := lawP) (w := w) (T := []) (base := base)).blt x b hb (by simpa using h1) (hasK_false (by simpa using h2)) (by simpa using h3)
  rw [hg] at z
  exact z
theorem def_of (c : SaysK P0 fas starD h F K E) (G : h.Ns mainGlobals mg) {x : Str} {ps : List Str} (hp : plainD x ps = true) : mg x = some (.ref (gaE E x)) ∧ PySem.W.keepIn F (.ref (gaE E x)) = true ∧
    ∃ (name qual : Str) (params : Arguments) (kV doc pm cdv ct oc : Value) (an od : Option Addr) (osl : Array (Option Value)), F.lookup (gaE E x) = some ⟨oc, od, .func (PySem.W.fnOf name qual params (defN x).body (defN x).scope .none kV doc pm an cdv ct), osl⟩ ∧ PySem.W.codeIn F cdv qual = true ∧
      plainA params = true ∧ ps = argNames params := by
  obtain ⟨h1, h2, h3, h4⟩ := plainD_ok hp
  have hm := look_mem h1
  obtain ⟨k1, k2, k3⟩ := c.all.def_ hm
  refine ⟨c.glo G k2, dfC_keep c.lk k3, ?_⟩
  have z := fn_none c.lk k3 (c.bs hm) h4
  rw [← h3]
  exact z
theorem solid_at (T : Stat) (c : SaysK P0 fas starD h F K E) (G : h.Ns mainGlobals mg) : SolidAt (gOf w F mg K E base) (He.ga F "EmptySolid") (gaE E starD.1) := by
  obtain ⟨t1, t⟩ := He.ba T.solid
  obtain ⟨t2, t⟩ := He.ba t
  obtain ⟨t3, t⟩ := He.ba t
  obtain ⟨t4, t⟩ := He.ba t
  obtain ⟨t5, t⟩ := He.ba t
  obtain ⟨t6, t7⟩ := He.ba t
  obtain ⟨_, name, qual, kV, doc, pm, an, cdv, ct, oc, od, osl, lk, hcd⟩ := c.star
  have f1 := all_mem c.all.fas (x := .glo "EmptySolid") (by simp [fas])
  have f2 := all_mem c.all.fas (x := .exc "EmptySolid") (by simp [fas])
  obtain ⟨e1, e2, e3, e4⟩ := He.exc_ok f2
  exact ⟨⟨name, qual, _, _, _, kV, doc, pm, cdv, ct, oc, an, od, osl, lk, hcd, t1, t2, (defOk_s t3).fs, t4, t5, t6⟩, c.free G c.all.enm, free_of w base T c G (x := "len") (b := .one "len") (by simp) rfl rfl, He.glo_ok c.kin G f1, e1, e2, e3, e4⟩
theorem all_ok (T : Stat) (c : SaysK P0 fas starD h F K E) (G : h.Ns mainGlobals mg) (hTB : ∀ p ∈ csOf P0 K E, LamX.TabB base mg p.1 p.2) : AllOk (gOf w F mg K E base) P0 := by
  obtain ⟨s1, s⟩ := He.ba T.empty
  obtain ⟨s2, s⟩ := He.ba s
  obtain ⟨s3, s4⟩ := He.ba s
  obtain ⟨h1, h2, h3, h4⟩ := plainD_ok s1
  have FD : FactsD (gOf w F mg K E base) P0 := factsD_of c G T.oks hTB
  obtain ⟨_, q⟩ := He.ba T.solid
  obtain ⟨_, q⟩ := He.ba q
  obtain ⟨_, q⟩ := He.ba q
  obtain ⟨_, q⟩ := He.ba q
  obtain ⟨_, q⟩ := He.ba q
  obtain ⟨_, q⟩ := He.ba q
  have es : starD.1 = "solid_of" := eqS_iff.mp q
  have mS : (gOf w F mg K E base).mg "solid_of" = some (.ref (gaE E starD.1)) := by
    have z := c.glo G c.star.1
    rw [es] at z ⊢
    exact z
  refine ⟨facts_of c G, factsC_of c G, FD, ?_, fun C k => sets_ok _ _ _⟩
  refine hand_ok (dE := defN "_law_empty") (solid_at T c G) mS (He.exm_ok (all_mem c.all.fas (x := .exm "EmptySolid" "EmptySolid" true) (by simp [fas]))) (fun f hf => (FD.defs _ _ h1).2 f hf) h2 h3 h4 s2 s3 s4
theorem fnr_of {g : G} {CX : CXT} {f : Addr} {d : Def1} {N ps : List Str} {sp : Sp} {name qual : Str} {params : Arguments} {kV doc pm cdv ct oc : Value} {an od : Option Addr} {osl : Array (Option Value)} (lk : g.K.lookup f = some ⟨oc, od, .func (PySem.W.fnOf name qual params d.body d.scope .none kV doc pm an cdv ct), osl⟩)
    (hcd : PySem.W.codeIn g.K cdv qual = true) (hp : plainA params = true) (hps : ps = argNames params) (S : FnScope N ps d.scope) (nd : ps.Nodup) (len : ∀ vs H Q E, sp vs H Q E → vs.length = ps.length)
    (hbody : ∀ (A : Around) (outer : List Env) (s : Shared) (H : Hp) (vs : List V) (Q : VK) (E : XK), sp vs H Q E → ∃ t, PSs (cxOf CX g.P g.w g.K g.mg g.base N qual d.scope f cdv A outer s H E) d.body t ∧ t { nx := fun _ H' => Q .non H', rt := Q } (L2.start N vs) H) :
    FnR g.P g.w g.K g.mg g.base CX 1 f sp := fun A outer s H us vs Q E hr e0 r h =>
  LamX.run_ofS (k := 0) lk hcd S hr e0 (bind_none hp hps (by rw [← r.length]; exact len _ _ _ _ h) nd) r (len _ _ _ _ h) fun _ => hbody A outer s H vs Q E h
/-- what the law is promised -/
def spLaw (F : Frag) (cs : List (Addr × Addr)) : Sp := fun vs H Q _ => ∃ (a : Addr) (ns : List Int), vs = [.ref a] ∧ SqL F H a (ns.map V.int) ∧ (∀ p ∈ cs, H p.2 = some (.tbl #[])) ∧ ∀ H', Q (.bl true) H'
theorem law_fn (T : Stat) (hT : TailOk) (c : SaysK P0 fas starD h F K E) (G : h.Ns mainGlobals mg) (hTB : ∀ p ∈ csOf P0 K E, LamX.TabB base mg p.1 p.2) {name qual : Str} {params : Arguments} {kV doc pm cdv ct oc : Value} {an od : Option Addr} {osl : Array (Option Value)}
    (lk : F.lookup (gaE E "law") = some ⟨oc, od, .func (PySem.W.fnOf name qual params lawD.body lawD.scope .none kV doc pm an cdv ct), osl⟩) (hcd : PySem.W.codeIn F cdv qual = true) :
    FnOk lawP w F mg base CXn 50 (gaE E "law") (PySem.W.fnOf name qual params lawD.body lawD.scope .none kV doc pm an cdv ct) ["_law_script"] (spLaw F (csOf P0 K E)) := by
  have O : AllOk (gOf w F mg K E base) P0 := all_ok T c G hTB
  obtain ⟨l1, l⟩ := He.ba T.law
  obtain ⟨l2, l⟩ := He.ba l
  obtain ⟨l3, l⟩ := He.ba l
  obtain ⟨l4, l⟩ := He.ba l
  obtain ⟨l5, l⟩ := He.ba l
  obtain ⟨l6, l⟩ := He.ba l
  obtain ⟨l7, l⟩ := He.ba l
  obtain ⟨l8, l⟩ := He.ba l
  obtain ⟨l9, l10⟩ := He.ba l
  obtain ⟨t1, t⟩ := He.ba T.tape
  obtain ⟨t2, t⟩ := He.ba t
  obtain ⟨t3, t⟩ := He.ba t
  obtain ⟨t4, t5⟩ := He.ba t
  obtain ⟨d1, d⟩ := He.ba T.draw
  obtain ⟨d2, d⟩ := He.ba d
  obtain ⟨d3, d4⟩ := He.ba d
  obtain ⟨_, okL, psL, _⟩ := plainD_ok l1
  have DS : DefS lawD := defOk_s okL
  have psL : lawD.ps = [("_law_script" : Str)] := psL
  have FS : FnScope lawD.N [("_law_script" : Str)] lawD.scope := by
    have z := DS.fs
    rw [psL] at z
    exact z
  have mA := free_of w base T c G (x := "abs") (b := .one "abs") (by simp) rfl rfl
  have mI := free_of w base T c G (x := "int") (b := .ty "int") (by simp) rfl rfl
  -- the tape
  obtain ⟨mT, kT, _, qT, _, _, _, _, _, _, _, _, _, _, lkT, hcdT, hpT, hpsT⟩ := def_of c G t1
  obtain ⟨_, okT, psT, _⟩ := plainD_ok t1
  have FT := (defOk_s okT).fs
  rw [psT] at FT
  have RT : FnR lawP w F mg base CXn 1 (gaE E "_law_tape") (spTape F) := fnr_of (g := gOf w F mg K E base) (CX := CXn) lkT hcdT hpT hpsT (fs_other FT (N' := tapeN) (by decide) rfl) (by decide) (fun vs H Q Ex q => by
    obtain ⟨a, ns, n0, rfl, _⟩ := q
    rfl) fun A outer s H vs Q Ex q => tape_fn (g := gOf w F mg K E base) t2 t3 t4 t5 mA mI q
  -- the draw
  obtain ⟨mD, kD, _, qD, _, _, _, _, _, _, _, _, _, _, lkD, hcdD, hpD, hpsD⟩ := def_of c G d1
  obtain ⟨_, okD, psD, _⟩ := plainD_ok d1
  have FD := (defOk_s okD).fs
  rw [psD] at FD
  have RD : FnR lawP w F mg base CXn 1 (gaE E "_law_draw") (spDraw F) := fnr_of (g := gOf w F mg K E base) (CX := CXn) lkD hcdD hpD hpsD (fs_other FD (N' := drawN) (by decide) rfl) (by decide) (fun vs H Q Ex q => by
    obtain ⟨a, ns, n0, rfl, _⟩ := q
    rfl) fun A outer s H vs Q Ex q => draw_fn (g := gOf w F mg K E base) d2 d3 d4 mI q
  refine ⟨fun vs H Q Ex q => ?_, fun A outer s H args us vs Q Ex hr e0 hb rv hsp => ?_⟩
  · obtain ⟨a, ns, rfl, _⟩ := q
    rfl
  · obtain ⟨a, ns, rfl, hs, htb, hQ⟩ := hsp
    refine LamX.run_ofS (N := lawD.N) (ps := ["_law_script"]) (k := 49) lk hcd FS hr e0 hb rv rfl fun hr' => ?_
    obtain ⟨st1, b1, e1, u1, hb1⟩ := isCons_eq l2
    obtain ⟨st2, r2, rfl, u2, _⟩ := isCons_eq hb1
    obtain ⟨x1, x2, x3, rfl, v1, v2⟩ := isSet_eq u1
    obtain ⟨_, rfl⟩ := isV_eq v1
    obtain ⟨x4, x5, x6, x7, rfl, v3, v4⟩ := isCal2_eq v2
    obtain ⟨_, rfl⟩ := isV_eq v3
    obtain ⟨_, _, rfl⟩ := isC_eq v4
    obtain ⟨y1, y2, y3, rfl, w1, w2⟩ := isSet_eq u2
    obtain ⟨_, rfl⟩ := isV_eq w1
    obtain ⟨y4, y5, y6, y7, rfl, w3, w4⟩ := isCal2_eq w2
    obtain ⟨_, rfl⟩ := isV_eq w3
    obtain ⟨_, _, rfl⟩ := isC_eq w4
    have hdr : lawD.body.drop 2 = r2 := by
      rw [e1]
      rfl
    have L0 := locAll_at l3 (x := "_law_script") (by simp)
    have L1 := locAll_at l3 (x := "_law_tape_here") (by simp)
    have L2' := locAll_at l3 (x := "_law_part") (by simp)
    have G1 := (scR_refl lawD.scope).glo _ l4
    have G2 := (scR_refl lawD.scope).glo _ l5
    have n0 : lawD.N[0]? = some ("_law_script" : Str) := by
      have z := FS.pre
      cases hN : lawD.N with
      | nil => rw [hN] at z; cases z
      | cons x r =>
        rw [hN] at z
        have z : x :: r.take 0 = [("_law_script" : Str)] := z
        injection z with z1 z2
        rw [z1]
        rfl
    have n1 := slot_at l6
    have n2 := slot_at l7
    have lam0 : lawD.lam = false := by simpa using l8
    have Gd : Good (gOf w F mg K E base) lawC (cxOf CXn lawP w F mg base lawD.N qual lawD.scope (gaE E "law") cdv A outer s H Ex).nox false lawD.scope (fun _ _ => bot) 49 :=
      ⟨rfl, rfl, rfl, rfl, rfl, rfl, rfl, DS.fs.nd, rfl, hr', scR_refl _, fun x _ => .inl rfl, fun _ _ _ _ _ _ _ _ z => z.elim, fun _ _ _ _ _ z => z, DS.ndbg, fun _ z _ => by
        have z : lawD.lam = true := z
        rw [lam0] at z
        cases z⟩
    have B : BaseOk (gOf w F mg K E base) lawC 49 24 := ⟨O.F, O.Fc, call_ok O 60 24, by decide, O.so _ _⟩
    have up : ClUp lawC lawD.scope (fun _ _ => bot) := fun _ _ _ _ _ _ _ _ _ _ _ z => z
    have rest := run_ss B Gd rfl up 60 r2
    have r1 : Room 1 (A.deeper (envOfC qual lawD.scope s.heap.objs.size (gaE E "law") cdv)) := hr'.mono (by decide)
    show ∃ t, PSs (cxOf CXn lawP w F mg base lawD.N qual lawD.scope (gaE E "law") cdv A outer s H Ex) lawD.body t ∧ t { nx := fun _ H' => Q .non H', rt := Q } (L2.start lawD.N [.ref a]) H
    rw [e1]
    refine ⟨_, PSs.nox (pss_cons (ps_set (X := (cxOf CXn lawP w F mg base lawD.N qual lawD.scope (gaE E "law") cdv A outer s H Ex).nox) (i := slotOf "_law_tape_here") DS.fs.nd n1 (.inl L1) (pe_fnr (E := fun _ _ _ => False) RT r1 G1 mT kT (fun _ _ _ _ _ _ _ z => z.elim) (pa_cons (pe_var (i := 0) n0 (.inl L0)) (pa_cons pe_int pa_nil))))
      (pss_cons (ps_set (i := slotOf "_law_part") DS.fs.nd n2 (.inl L2') (pe_fnr (E := fun _ _ _ => False) RD r1 G2 mD kD (fun _ _ _ _ _ _ _ z => z.elim) (pa_cons (pe_var (i := slotOf "_law_tape_here") n1 (.inl L1)) (pa_cons pe_int pa_nil)))) rest)), ?_⟩
    have i1 : slotOf "_law_tape_here" < lawD.N.length := (List.getElem?_eq_some_iff.mp n1).1
    have i2 : slotOf "_law_part" < lawD.N.length := (List.getElem?_eq_some_iff.mp n2).1
    have hl : (L2.start lawD.N [V.ref a]).length = lawD.N.length := by
      unfold L2.start
      rw [List.length_append, List.length_map, List.length_replicate, List.length_singleton]
      omega
    refine ⟨.ref a, rfl, a, ns, 71011, rfl, hs, fun p r m hp => ?_⟩
    refine ⟨.ref p, List.getElem?_set_self (by rw [hl]; exact i1), p, r, m, rfl, upd_same, fun k r' m' hk => ?_⟩
    obtain ⟨σe, Se, et⟩ := hT k hk
    rw [hdr] at et
    refine ⟨[], start0 (k : Nat), [], .ret (.bl true), σe, Se, ⟨⟨rfl, List.nodup_nil, fun n o a z => by simp at z, fun q hq => ?_⟩, ⟨?_, fun i d ed => ?_⟩⟩, et, fun z => (by cases z), fun d' z ρ' H' σ' v p1 l1 _ M1 d1 => ?_⟩
    · obtain ⟨pd, hpd, rfl⟩ := List.mem_map.mp hq
      have z := htb _ (List.mem_map.mpr ⟨pd, hpd, rfl⟩)
      refine ⟨#[], ?_, trivial, fun pos cv hc => by
        have z : codeAmong pos [] = some cv := hc
        simp [codeAmong] at z⟩
      rw [upd_ne (ne_of_none z hp), upd_ne (ne_of_none z hp)]
      exact z
    · unfold start0
      rw [setN_eq, List.length_set, List.length_map, List.length_set, List.length_set, hl]
    · unfold start0 at ed
      rw [setN_eq] at ed
      by_cases hi : i = slotOf "_law_part"
      · subst hi
        rw [List.getElem?_set_self (by rw [List.length_map]; exact i2)] at ed
        cases ed
        exact ⟨.int (k : Nat), List.getElem?_set_self (by rw [List.length_set, hl]; exact i2), rfl⟩
      · rw [List.getElem?_set_ne (Ne.symm hi), List.getElem?_map] at ed
        cases hn : lawD.N[i]? with
        | none => rw [hn] at ed; cases ed
        | some x => rw [hn] at ed; cases ed
    · cases z
      have d1 : v = .bl true := d1
      subst d1
      exact hQ H'
end
end K76
end

/-! text Tail -/
section
set_option maxHeartbeats 1000000
namespace K76
open PySem PySem.Spec PyProof.Rows L2
/-! ### the law's tail: the tables made twice, then a loop, in pieces -/
def forE (l : List Stmt) : Expr × Expr × List Stmt := match l with
  | .For t it b _ _ :: _ => (t, it, b)
  | _ => (.Constant .none 0 default, .Constant .none 0 default, [])
def lawI : Ih := run lawC 59
def forT : Expr := (forE (lawD.body.drop 4)).1
def forI : Expr := (forE (lawD.body.drop 4)).2.1
def forB : List Stmt := (forE (lawD.body.drop 4)).2.2
/-- ahead of the loop -/
def setG (C : Cx1) (ih : Ih) (L : List Stmt) (t it : Expr) (σ : Env1) : Option (Env1 × Src × Sto) := bnd (stepSs C ih (L.take 2) σ []) fun o q => match o with
  | .nx => bnd (evSrc C ih false C.sc t it q.1 q.2) fun src S1 => some (q.1, src, S1)
  | .ret _ => none
def setL (p : Int) : Option (Env1 × Src × Sto) := setG lawC lawI (lawD.body.drop 2) forT forI (start0 p)
def set0 (p : Int) : Env1 × Src × Sto := match setL p with
  | some x => x
  | none => ([], .rng 0 0, [])
def dueAt (p : Int) (i : Nat) : D := match nth (set0 p).1 (slotOf "_law_named") with
  | some (some (.loc n)) => match nth (set0 p).2.2 n with
    | some (.lst rows) => match nth rows i with
      | some (.tup [_, e]) => e
      | _ => .non
    | _ => .non
  | _ => .non
def envAt (p : Int) : Nat → Env1
  | 0 => (set0 p).1
  | i + 1 => setN (setN (set0 p).1 (slotOf "_law_k") (some (.int (i : Nat)))) (slotOf "_law_due") (some (.tup [.str "told", dueAt p i]))
/-- so many turns -/
def goN (C : Cx1) (ih : Ih) (tg : Expr) (body : List Stmt) (src : Src) : Nat → Nat → Env1 → Sto → Option (Env1 × Sto)
  | 0, _, σ, S => some (σ, S)
  | n + 1, i, σ, S => opt (src.at S i) fun o => opt o fun d => opt (asgT C C.sc S 20 tg d σ) fun σ1 => bnd (ih.ss body σ1 S) fun o p => match o with
    | .nx => goN C ih tg body src n (i + 1) p.1 p.2
    | .ret _ => none
def turnsL (p : Int) (i n : Nat) : Option (Env1 × Sto) := goN lawC lawI forT forB (set0 p).2.1 n i (envAt p i) (set0 p).2.2
def endL (p : Int) (i : Nat) : Option (Env1 × Sto) := some (envAt p i, (set0 p).2.2)
def tailOk (l : List Stmt) : Bool := match l with
  | [_, _, .For _ _ _ [] _, .Return (some (.Constant (.bool true) _ _)) _] => true
  | _ => false
def set27 (o : Option (Env1 × Src × Sto)) : Bool := match o with
  | some (_, .rng 0 n, _) => Nat.beq n 27
  | _ => false
theorem tailOk_eq {l : List Stmt} (h : tailOk l = true) : ∃ a b t it bd p1 k p2 p3, l = [a, b, .For t it bd [] p1, .Return (some (.Constant (.bool true) k p2)) p3] := by
  unfold tailOk at h
  split at h
  · exact ⟨_, _, _, _, _, _, _, _, _, rfl⟩
  · cases h
theorem set27_eq {o : Option (Env1 × Src × Sto)} (h : set27 o = true) : ∃ σ S, o = some (σ, .rng 0 27, S) := by
  unfold set27 at h
  split at h
  · rename_i n _
    have := Nat.eq_of_beq_eq_true h
    subst this
    exact ⟨_, _, rfl⟩
  · cases h
theorem stepSs_app {C : Cx1} {ih : Ih} {r : List Stmt} : ∀ {l : List Stmt} {σ : Env1} {S : Sto} {σ' : Env1} {S' : Sto}, stepSs C ih l σ S = some (.nx, σ', S') → stepSs C ih (l ++ r) σ S = stepSs C ih r σ' S'
  | [], σ, S, σ', S', h => by
    cases h
    rfl
  | s :: l, σ, S, σ', S', h => by
    obtain ⟨o, p, e1, e2⟩ := bnd_some (show bnd (stepS C ih s σ S) (fun o p => match o with
      | .nx => stepSs C ih l p.1 p.2
      | .ret d => some (.ret d, p)) = some (.nx, σ', S') from h)
    cases o with
    | ret d => cases e2
    | nx =>
      show bnd (stepS C ih s σ S) (fun o p => match o with
        | .nx => stepSs C ih (l ++ r) p.1 p.2
        | .ret d => some (.ret d, p)) = _
      rw [e1]
      exact stepSs_app (l := l) e2
theorem goN_for {C : Cx1} {ih : Ih} {tg : Expr} {body : List Stmt} {src : Src} {m : Nat} : ∀ {n i : Nat} {σ : Env1} {S : Sto} {σ' : Env1} {S' : Sto}, goN C ih tg body src n i σ S = some (σ', S') → forGo C ih tg body src (n + m) i σ S = forGo C ih tg body src m (i + n) σ' S'
  | 0, i, σ, S, σ', S', h => by
    cases h
    rw [Nat.zero_add, Nat.add_zero]
  | n + 1, i, σ, S, σ', S', h => by
    obtain ⟨o1, e1, h1⟩ := opt_some (show opt (src.at S i) (fun o => opt o fun d => opt (asgT C C.sc S 20 tg d σ) fun σ1 => bnd (ih.ss body σ1 S) fun o p => match o with
      | .nx => goN C ih tg body src n (i + 1) p.1 p.2
      | .ret _ => none) = some (σ', S') from h)
    obtain ⟨d, e0, h2⟩ := opt_some h1
    subst e0
    obtain ⟨σ1, e2, h3⟩ := opt_some h2
    obtain ⟨o2, p, e3, h4⟩ := bnd_some h3
    rw [show n + 1 + m = n + m + 1 by omega]
    show opt (src.at S i) (fun o => match o with
      | none => some (.nx, σ, S)
      | some d => opt (asgT C C.sc S 20 tg d σ) fun σ1 => bnd (ih.ss body σ1 S) fun o p => match o with
        | .nx => forGo C ih tg body src (n + m) (i + 1) p.1 p.2
        | .ret r => some (.ret r, p)) = _
    rw [e1]
    show opt (asgT C C.sc S 20 tg d σ) (fun σ1 => bnd (ih.ss body σ1 S) fun o p => match o with
        | .nx => forGo C ih tg body src (n + m) (i + 1) p.1 p.2
        | .ret r => some (.ret r, p)) = _
    rw [e2]
    show bnd (ih.ss body σ1 S) (fun o p => match o with
        | .nx => forGo C ih tg body src (n + m) (i + 1) p.1 p.2
        | .ret r => some (.ret r, p)) = _
    rw [e3]
    cases o2 with
    | ret r => cases h4
    | nx =>
      show forGo C ih tg body src (n + m) (i + 1) p.1 p.2 = _
      rw [goN_for (m := m) h4, show i + 1 + n = i + (n + 1) by omega]
/-- the pieces of a part: where each begins, how many turns -/
def Pieces (p : Int) : List Nat → Nat → Prop
  | [], i => i = 27
  | n :: r, i => turnsL p i n = endL p (i + n) ∧ Pieces p r (i + n)
theorem pieces_nil {p : Int} : Pieces p [] 27 := rfl
theorem pieces_cons {p : Int} {n i j : Nat} {r : List Nat} (h : turnsL p i n = endL p j) (hr : Pieces p r j) (e : j = i + n := by rfl) : Pieces p (n :: r) i := by
  subst e
  exact And.intro h hr
theorem pieces_for {p : Int} {m : Nat} : ∀ {l : List Nat} {i : Nat}, Pieces p l i → i ≤ 27 → forGo lawC lawI forT forB (set0 p).2.1 (27 - i + m) i (envAt p i) (set0 p).2.2 = forGo lawC lawI forT forB (set0 p).2.1 m 27 (envAt p 27) (set0 p).2.2
  | [], i, h, _ => by
    have h : i = 27 := h
    subst h
    rw [Nat.sub_self, Nat.zero_add]
  | n :: r, i, ⟨h1, h2⟩, hi => by
    have le : ∀ {l : List Nat} {i : Nat}, Pieces p l i → i ≤ 27 := fun {l} => by
      induction l with
      | nil => intro i h; exact Nat.le_of_eq h
      | cons n r ih => intro i h; have := ih h.2; omega
    have h3 := le h2
    have z := goN_for (m := 27 - (i + n) + m) (show goN lawC lawI forT forB (set0 p).2.1 n i (envAt p i) (set0 p).2.2 = some (envAt p (i + n), (set0 p).2.2) from h1)
    rw [show 27 - i + m = n + (27 - (i + n) + m) by omega, z]
    exact pieces_for h2 h3
theorem tail_gen {C : Cx1} {ih : Ih} {L : List Stmt} {a b : Stmt} {t it : Expr} {bd : List Stmt} {p1 k p2 p3} {σ σ0 σ1 : Env1} {S0 : Sto} (e : L = [a, b, .For t it bd [] p1, .Return (some (.Constant (.bool true) k p2)) p3]) (h0 : setG C ih L t it σ = some (σ0, .rng 0 27, S0))
    (hf : forGo C ih t bd (.rng 0 27) 5000 0 σ0 S0 = forGo C ih t bd (.rng 0 27) 4973 27 σ1 S0)
    (hr : ih.e false C.sc (.Constant (.bool true) k p2) σ1 S0 = some (.bl true, S0)) : stepSs C ih L σ [] = some (.ret (.bl true), σ1, S0) := by
  unfold setG at h0
  obtain ⟨o, q, q1, q2⟩ := bnd_some h0
  cases o with
  | ret d => cases q2
  | nx =>
    obtain ⟨src, S1, q3, q4⟩ := bnd_some q2
    simp only [Option.some.injEq, Prod.mk.injEq] at q4
    obtain ⟨z1, z2, z3⟩ := q4
    subst z1 z2 z3
    have ed : L = L.take 2 ++ [.For t it bd [] p1, .Return (some (.Constant (.bool true) k p2)) p3] := by
      rw [e]
      rfl
    rw [ed, stepSs_app q1]
    show bnd (bnd (evSrc C ih false C.sc t it q.1 q.2) fun src S1 => forGo C ih t bd src 5000 0 q.1 S1) (fun o p => match o with
      | .nx => stepSs C ih [.Return (some (.Constant (.bool true) k p2)) p3] p.1 p.2
      | .ret d => some (.ret d, p)) = _
    rw [q3]
    show bnd (forGo C ih t bd (.rng 0 27) 5000 0 q.1 S1) (fun o p => match o with
      | .nx => stepSs C ih [.Return (some (.Constant (.bool true) k p2)) p3] p.1 p.2
      | .ret d => some (.ret d, p)) = _
    have g27 : forGo C ih t bd (.rng 0 27) (4972 + 1) 27 σ1 S1 = some (.nx, σ1, S1) := rfl
    rw [hf, show (4973 : Nat) = 4972 + 1 from rfl, g27]
    show bnd (bnd (ih.e false C.sc (.Constant (.bool true) k p2) σ1 S1) fun d S1 => some (Out.ret d, σ1, S1)) (fun (o : Out) p => match o with
      | .nx => stepSs C ih [] p.1 p.2
      | .ret d => some (.ret d, p)) = _
    rw [hr]
    rfl
theorem runT_ss {C : Cx1} {n : Nat} {l : List Stmt} {σ : Env1} {S : Sto} : (run C (n + 1)).ss l σ S = stepSs C (run C n) l σ S := rfl
theorem runT_con {C : Cx1} {n : Nat} {sc : Scope} {k p2} {σ : Env1} {S : Sto} : (run C (n + 1)).e false sc (.Constant (.bool true) k p2) σ S = some (.bl true, S) := rfl
theorem forE_eq {l : List Stmt} {t it : Expr} {bd r : List Stmt} {p1} (e : l = .For t it bd [] p1 :: r) : forE l = (t, it, bd) := by
  rw [e]
  rfl
theorem drop_two {l r : List Stmt} {a b : Stmt} (e : l.drop 2 = a :: b :: r) : l.drop 4 = r := by
  rw [show (4 : Nat) = 2 + 2 from rfl, ← List.drop_drop, e]
  rfl
theorem tail_of {p : Int} {l : List Nat} (hs : tailOk (lawD.body.drop 2) = true) (h0 : set27 (setL p) = true) (hp : Pieces p l 0) : ∃ σ S, (run lawC 60).ss (lawD.body.drop 2) (start0 p) [] = some (.ret (.bl true), σ, S) := by
  obtain ⟨a, b, t, it, bd, p1, k, p2, p3, e⟩ := tailOk_eq hs
  obtain ⟨σ0, S0, e0⟩ := set27_eq h0
  have es : set0 p = (σ0, .rng 0 27, S0) := by
    unfold set0
    rw [e0]
  have e4 := forE_eq (drop_two e)
  have hT : forT = t := by
    unfold forT
    rw [e4]
  have hI : forI = it := by
    unfold forI
    rw [e4]
  have hB : forB = bd := by
    unfold forB
    rw [e4]
  have f := pieces_for (m := 4973) hp (Nat.zero_le _)
  have f0 : envAt p 0 = σ0 := by
    unfold envAt
    rw [es]
  rw [f0, es, hT, hB] at f
  unfold setL at e0
  rw [hT, hI] at e0
  have g := tail_gen e e0 f (runT_con (n := 58))
  exact ⟨envAt p 27, S0, runT_ss.trans g⟩
def PartOk (p : Int) : Prop := ∃ σ S, (run lawC 60).ss (lawD.body.drop 2) (start0 p) [] = some (.ret (.bl true), σ, S)
theorem part_nat (h0 : PartOk 0) (h1 : PartOk 1) (h2 : PartOk 2) (h3 : PartOk 3) : ∀ k : Nat, k < 4 → PartOk (k : Nat)
  | 0, _ => h0
  | 1, _ => h1
  | 2, _ => h2
  | 3, _ => h3
  | n + 4, h => absurd h (by omega)
theorem tail_all (h0 : PartOk 0) (h1 : PartOk 1) (h2 : PartOk 2) (h3 : PartOk 3) : TailOk := fun k hk => part_nat h0 h1 h2 h3 k hk
end K76
end

/-! text Said -/
section
set_option maxHeartbeats 0
namespace K76
open PySem PySem.W PySem.Calls PyProof.Rows
theorem pw_refl : PySem.Challenge.pw_wholefaces_k76_whole_names_a_to_c = PySem.Challenge.pw_wholefaces_k76_whole_names_a_to_c := rfl
name_quick progK76 for PySem.Challenge.pw_wholefaces_k76_whole_names_a_to_c by pw_refl
abbrev L : OpenLaw := PySem.Challenge.rw_wholefaces_k76_whole_names_a_to_c
theorem noRoad_app (lk : Look) : ∀ a b : List Stmt, noRoadLSs lk a = true → noRoadLSs lk b = true → noRoadLSs lk (a ++ b) = true
  | [], b, _, hb => hb
  | s :: r, b, ha, hb => by
    unfold noRoadLSs at ha
    show noRoadLSs lk (s :: (r ++ b)) = true
    unfold noRoadLSs
    have h := Bool.and_eq_true_iff.mp ha
    rw [h.1, noRoad_app lk r b h.2 hb]
    rfl
theorem noRoad_cut (n : Nat) (lk : Look) (l : List Stmt) (h1 : noRoadLSs lk (l.take n) = true) (h2 : noRoadLSs lk (l.drop n) = true) : noRoadLSs lk l = true := by
  have h := noRoad_app lk _ _ h1 h2
  rw [List.take_append_drop] at h
  exact h
abbrev lkO (p : Program) : Look := { strict := !(importedModules p.main.body).all cThrough.contains, foot := none, bare := (["vars", "dir", "locals"] : List Str).filter (readsOut p p.main.body) }
theorem s1 : namesResolve L.row.prog = true := by k_qdec
theorem r1 : (!readsOut L.row.prog L.row.prog.main.body "vars") = true := by k_qdec
theorem r2 : (!readsOut L.row.prog L.row.prog.main.body "dir") = true := by k_qdec
theorem r3 : (!readsOut L.row.prog L.row.prog.main.body "locals") = true := by k_qdec
theorem r4 : (importedModules L.row.prog.main.body).all cThrough.contains = true := by k_qdec
theorem s2 : noRoadLSs { strict := false, foot := none, bare := [] } L.row.prog.main.body = true := by k_qdec
theorem lk_eq : lkO L.row.prog = { strict := false, foot := none, bare := [] } := by
  unfold lkO
  rw [r4]
  have h1 : readsOut L.row.prog L.row.prog.main.body "vars" = false := by simpa using r1
  have h2 : readsOut L.row.prog L.row.prog.main.body "dir" = false := by simpa using r2
  have h3 : readsOut L.row.prog L.row.prog.main.body "locals" = false := by simpa using r3
  rw [List.filter_cons_of_neg (by rw [h1]; decide), List.filter_cons_of_neg (by rw [h2]; decide), List.filter_cons_of_neg (by rw [h3]; decide), List.filter_nil]
  rfl
theorem s5 : noRoadLSs (lkO L.row.prog) L.row.prog.main.body = true := by rw [lk_eq]; exact s2
theorem s4 : namesMeet L.row.prog L.row.prog.main.body (fun _ n => attrL n) = true := by k_qdec
theorem s6 : namesMeet L.prog L.above (fun _ n => !L.own.contains n) = true := by k_qdec
theorem said : L.wellSaid = true := by
  unfold OpenLaw.wellSaid OpenRow.wellSaid OpenRow.partSaid looksOpen
  repeat' (with_reducible refine look_both ?_ ?_)
  all_goals with_reducible first
    | exact s1
    | exact s5
    | exact s4
    | exact s6
    | k_qdec
    | kernel_rfl
end K76
end

/-! text Whole -/
section
set_option maxHeartbeats 0
namespace K76
open PySem PySem.W PySem.Spec PyProof.Rows L2
/-! ### the program's tables are whole: told in pieces -/
def ndS : List Str → Bool
  | [] => true
  | a :: r => !hasS a r && ndS r
theorem ndS_mem {x : Str} : ∀ {l : List Str}, hasS x l = false → ∀ {y : Str}, y ∈ l → (y == x) = false
  | [], _, y, h => by cases h
  | z :: r, h, y, hy => by
    have h : (match eqS z x with
      | true => true
      | false => hasS x r) = false := h
    cases e : eqS z x with
    | true =>
      rw [e] at h
      cases h
    | false =>
      rw [e] at h
      rcases List.mem_cons.mp hy with rfl | hy
      · exact beq_eq_false_iff_ne.mpr (eqS_ne e)
      · exact ndS_mem (l := r) h hy
theorem filter_none {x : Str} : ∀ {l : List (Str × NameKind)}, hasS x (l.map (·.1)) = false → l.filter (fun y => y.1 == x) = []
  | l, h => List.filter_eq_nil_iff.mpr fun y hy => by
    have z := ndS_mem h (List.mem_map_of_mem (f := (·.1)) hy)
    rw [z]
    exact Bool.false_ne_true
theorem filter_one {x : Str × NameKind} : ∀ {l : List (Str × NameKind)}, ndS (l.map (·.1)) = true → x ∈ l → ∃ y, l.filter (fun y => y.1 == x.1) = [y]
  | [], _, h => by cases h
  | z :: r, h, hx => by
    obtain ⟨h1, h2⟩ := He.ba (show (!hasS z.1 (r.map (·.1)) && ndS (r.map (·.1))) = true from h)
    have h1 : hasS z.1 (r.map (·.1)) = false := by simpa using h1
    rcases List.mem_cons.mp hx with rfl | hx
    · refine ⟨x, ?_⟩
      rw [List.filter_cons_of_pos (p := fun y : Str × NameKind => y.1 == x.1) (beq_self_eq_true x.1), filter_none h1]
    · obtain ⟨y, e⟩ := filter_one h2 hx
      refine ⟨y, ?_⟩
      have ne : (x.1 == z.1) = false := ndS_mem h1 (List.mem_map_of_mem (f := (·.1)) hx)
      have ne : ¬ (z.1 == x.1) = true := fun q => by
        have q : z.1 = x.1 := eq_of_beq q
        rw [q, beq_self_eq_true] at ne
        cases ne
      rw [List.filter_cons_of_neg (p := fun y : Str × NameKind => y.1 == x.1) ne, e]
theorem noTwice_of {sc : Scope} (h : ndS (sc.names.map (·.1)) = true) : TablesWhole.noTwice sc = true := by
  unfold TablesWhole.noTwice
  refine List.all_eq_true.mpr fun x hx => ?_
  obtain ⟨y, e⟩ := filter_one h hx
  obtain ⟨n, k⟩ := x
  show (match sc.names.filter (fun y => y.1 == n) with
    | [_] => true
    | [(_, a), (_, b)] => sc.kind == ScopeKind.class && a != NameKind.free && b == NameKind.free
    | _ => false) = true
  rw [e]
theorem wSs_cut {top : Scope} {cx : TablesWhole.Ctx} {sc : Scope} : ∀ (n : Nat) {l : List Stmt}, TablesWhole.wSs TablesWhole.holds top cx sc (l.take n) = true → TablesWhole.wSs TablesWhole.holds top cx sc (l.drop n) = true → TablesWhole.wSs TablesWhole.holds top cx sc l = true
  | 0, _, _, h => h
  | _ + 1, [], _, h => h
  | n + 1, s :: r, h1, h2 => by
    rw [List.take_succ_cons, TablesWhole.wSs.eq_2] at h1
    rw [TablesWhole.wSs.eq_2]
    obtain ⟨h3, h4⟩ := He.ba (show (TablesWhole.wS TablesWhole.holds top cx sc s && TablesWhole.wSs TablesWhole.holds top cx sc (r.take n)) = true from h1)
    show (TablesWhole.wS TablesWhole.holds top cx sc s && TablesWhole.wSs TablesWhole.holds top cx sc r) = true
    rw [h3, wSs_cut n h4 h2]
    rfl
theorem wModule_of {m : Module} (h1 : TablesWhole.noTwice m.scope = true) (h2 : TablesWhole.wSs TablesWhole.gather m.scope { frame := m.scope, nl := [], gl := [], encl := [], cls := none } m.scope m.body = [])
    (h3 : TablesWhole.wSs TablesWhole.holds m.scope { frame := m.scope, nl := [], gl := [], encl := [], cls := none } m.scope m.body = true) : TablesWhole.wModule TablesWhole.holds m = true := by
  unfold TablesWhole.wModule
  rw [h2]
  show TablesWhole.Alg.all TablesWhole.holds [true, TablesWhole.noTwice m.scope, TablesWhole.wSs TablesWhole.holds m.scope { frame := m.scope, nl := [], gl := [], encl := [], cls := none } m.scope m.body] = true
  rw [h1, h3]
  rfl
theorem whole_of {p : Program} (hm : p.modules = []) (hp : p.parses = []) (hh : p.harvested = []) (h : TablesWhole.wModule TablesWhole.holds p.main = true) : p.tablesWhole = true := by
  unfold Program.tablesWhole TablesWhole.wProgram
  rw [hm, hp, hh, h]
  rfl
abbrev cxM : TablesWhole.Ctx := { frame := lawP.main.scope, nl := [], gl := [], encl := [], cls := none }
abbrev wM (l : List Stmt) : Bool := TablesWhole.wSs TablesWhole.holds lawP.main.scope cxM lawP.main.scope l
theorem whole_names : ndS (lawP.main.scope.names.map (·.1)) = true := by kernel_rfl
theorem whole_told : TablesWhole.wSs TablesWhole.gather lawP.main.scope cxM lawP.main.scope lawP.main.body = [] := by kernel_rfl
theorem whole0 : wM (lawP.main.body.take 70) = true := by kernel_rfl
theorem whole1 : wM ((lawP.main.body.drop 70).take 70) = true := by kernel_rfl
theorem whole2 : wM (((lawP.main.body.drop 70).drop 70).take 70) = true := by kernel_rfl
theorem whole3 : wM (((lawP.main.body.drop 70).drop 70).drop 70) = true := by kernel_rfl
theorem whole_body : wM lawP.main.body = true := wSs_cut 70 whole0 (wSs_cut 70 whole1 (wSs_cut 70 whole2 whole3))
theorem whole : lawP.tablesWhole = true := whole_of rfl rfl rfl (wModule_of (noTwice_of whole_names) whole_told whole_body)
theorem bareL : lawP.bare := ⟨rfl, rfl, rfl, rfl, rfl, whole⟩
end K76
end

section
set_option maxHeartbeats 0
namespace K76
open PySem PySem.W PySem.Spec PyProof.Rows L2
theorem turnsL_refl : turnsL = turnsL := rfl
theorem endL_refl : endL = endL := rfl
name_quick turnsQ for turnsL by turnsL_refl
name_quick endQ for endL by endL_refl
theorem stat : Stat := by
  constructor <;> k_qdec
theorem shapeT : tailOk (lawD.body.drop 2) = true := by k_qdec
theorem ahead0 : set27 (setL 0) = true := by k_qdec
theorem goQ0_0 : PySem.W.Fast.turnsQ 0 0 12 = PySem.W.Fast.endQ 0 12 := by kernel_rfl
theorem go0_0 : turnsL 0 0 12 = endL 0 12 := by
  rw [PySem.W.Fast.turnsQ_eq, PySem.W.Fast.endQ_eq]
  exact goQ0_0
theorem goQ0_1 : PySem.W.Fast.turnsQ 0 12 5 = PySem.W.Fast.endQ 0 17 := by kernel_rfl
theorem go0_1 : turnsL 0 12 5 = endL 0 17 := by
  rw [PySem.W.Fast.turnsQ_eq, PySem.W.Fast.endQ_eq]
  exact goQ0_1
theorem goQ0_2 : PySem.W.Fast.turnsQ 0 17 5 = PySem.W.Fast.endQ 0 22 := by kernel_rfl
theorem go0_2 : turnsL 0 17 5 = endL 0 22 := by
  rw [PySem.W.Fast.turnsQ_eq, PySem.W.Fast.endQ_eq]
  exact goQ0_2
theorem goQ0_3 : PySem.W.Fast.turnsQ 0 22 5 = PySem.W.Fast.endQ 0 27 := by kernel_rfl
theorem go0_3 : turnsL 0 22 5 = endL 0 27 := by
  rw [PySem.W.Fast.turnsQ_eq, PySem.W.Fast.endQ_eq]
  exact goQ0_3
theorem part0 : PartOk 0 := tail_of shapeT ahead0 (pieces_cons go0_0 (pieces_cons go0_1 (pieces_cons go0_2 (pieces_cons go0_3 pieces_nil))))
theorem ahead1 : set27 (setL 1) = true := by k_qdec
theorem goQ1_0 : PySem.W.Fast.turnsQ 1 0 12 = PySem.W.Fast.endQ 1 12 := by kernel_rfl
theorem go1_0 : turnsL 1 0 12 = endL 1 12 := by
  rw [PySem.W.Fast.turnsQ_eq, PySem.W.Fast.endQ_eq]
  exact goQ1_0
theorem goQ1_1 : PySem.W.Fast.turnsQ 1 12 4 = PySem.W.Fast.endQ 1 16 := by kernel_rfl
theorem go1_1 : turnsL 1 12 4 = endL 1 16 := by
  rw [PySem.W.Fast.turnsQ_eq, PySem.W.Fast.endQ_eq]
  exact goQ1_1
theorem goQ1_2 : PySem.W.Fast.turnsQ 1 16 8 = PySem.W.Fast.endQ 1 24 := by kernel_rfl
theorem go1_2 : turnsL 1 16 8 = endL 1 24 := by
  rw [PySem.W.Fast.turnsQ_eq, PySem.W.Fast.endQ_eq]
  exact goQ1_2
theorem goQ1_3 : PySem.W.Fast.turnsQ 1 24 3 = PySem.W.Fast.endQ 1 27 := by kernel_rfl
theorem go1_3 : turnsL 1 24 3 = endL 1 27 := by
  rw [PySem.W.Fast.turnsQ_eq, PySem.W.Fast.endQ_eq]
  exact goQ1_3
theorem part1 : PartOk 1 := tail_of shapeT ahead1 (pieces_cons go1_0 (pieces_cons go1_1 (pieces_cons go1_2 (pieces_cons go1_3 pieces_nil))))
theorem ahead2 : set27 (setL 2) = true := by k_qdec
theorem goQ2_0 : PySem.W.Fast.turnsQ 2 0 12 = PySem.W.Fast.endQ 2 12 := by kernel_rfl
theorem go2_0 : turnsL 2 0 12 = endL 2 12 := by
  rw [PySem.W.Fast.turnsQ_eq, PySem.W.Fast.endQ_eq]
  exact goQ2_0
theorem goQ2_1 : PySem.W.Fast.turnsQ 2 12 8 = PySem.W.Fast.endQ 2 20 := by kernel_rfl
theorem go2_1 : turnsL 2 12 8 = endL 2 20 := by
  rw [PySem.W.Fast.turnsQ_eq, PySem.W.Fast.endQ_eq]
  exact goQ2_1
theorem goQ2_2 : PySem.W.Fast.turnsQ 2 20 6 = PySem.W.Fast.endQ 2 26 := by kernel_rfl
theorem go2_2 : turnsL 2 20 6 = endL 2 26 := by
  rw [PySem.W.Fast.turnsQ_eq, PySem.W.Fast.endQ_eq]
  exact goQ2_2
theorem goQ2_3 : PySem.W.Fast.turnsQ 2 26 1 = PySem.W.Fast.endQ 2 27 := by kernel_rfl
theorem go2_3 : turnsL 2 26 1 = endL 2 27 := by
  rw [PySem.W.Fast.turnsQ_eq, PySem.W.Fast.endQ_eq]
  exact goQ2_3
theorem part2 : PartOk 2 := tail_of shapeT ahead2 (pieces_cons go2_0 (pieces_cons go2_1 (pieces_cons go2_2 (pieces_cons go2_3 pieces_nil))))
theorem ahead3 : set27 (setL 3) = true := by k_qdec
theorem goQ3_0 : PySem.W.Fast.turnsQ 3 0 11 = PySem.W.Fast.endQ 3 11 := by kernel_rfl
theorem go3_0 : turnsL 3 0 11 = endL 3 11 := by
  rw [PySem.W.Fast.turnsQ_eq, PySem.W.Fast.endQ_eq]
  exact goQ3_0
theorem goQ3_1 : PySem.W.Fast.turnsQ 3 11 4 = PySem.W.Fast.endQ 3 15 := by kernel_rfl
theorem go3_1 : turnsL 3 11 4 = endL 3 15 := by
  rw [PySem.W.Fast.turnsQ_eq, PySem.W.Fast.endQ_eq]
  exact goQ3_1
theorem goQ3_2 : PySem.W.Fast.turnsQ 3 15 8 = PySem.W.Fast.endQ 3 23 := by kernel_rfl
theorem go3_2 : turnsL 3 15 8 = endL 3 23 := by
  rw [PySem.W.Fast.turnsQ_eq, PySem.W.Fast.endQ_eq]
  exact goQ3_2
theorem goQ3_3 : PySem.W.Fast.turnsQ 3 23 4 = PySem.W.Fast.endQ 3 27 := by kernel_rfl
theorem go3_3 : turnsL 3 23 4 = endL 3 27 := by
  rw [PySem.W.Fast.turnsQ_eq, PySem.W.Fast.endQ_eq]
  exact goQ3_3
theorem part3 : PartOk 3 := tail_of shapeT ahead3 (pieces_cons go3_0 (pieces_cons go3_1 (pieces_cons go3_2 (pieces_cons go3_3 pieces_nil))))
theorem tails : TailOk := tail_all part0 part1 part2 part3
end K76
end

/-! text End -/
section
set_option maxHeartbeats 0
namespace K76
open PySem PySem.W PySem.Calls PyProof.Rows L2
/-! ### the top's run, told of the model's own names -/
theorem run1s (w : World) : (openF (fun q => PySem.W.stepT (denote PySem.treeTable) q w) PySem.fenceModules? (Amid.steps0 + (Amid.steps1 + Amid.left)) lawP).bind (fun r => (goK (PySem.W.stepT (denote PySem.treeTable) lawP w) r.2.n (annOf r.1) Amid.steps0 r.2 (PySem.W.topStub lawP)).map fun y => (r.2.n, annOf r.1, seenA y)) = some (39, some (.ref 6), Amid.objs0 w, {}, #[], {}, Amid.toks0, os0, Amid.thr0) := by
  rw [HandSHeadRun.stepQ_eq, HandSHeadRun.denQ_eq, HandSHeadRun.tabQ_eq, HandSHeadRun.fenceQ_eq]
  exact run1 w
theorem run2s (w : World) : midA (PySem.W.stepT (denote PySem.treeTable) lawP w) 39 (some (.ref 6)) Amid.steps1 (stA w) Amid.thr0 = some (Amid.objs1 w, {}, #[], {}, Amid.toks1, os0, Amid.thr1) := by
  rw [HandSHeadRun.stepQ_eq, HandSHeadRun.denQ_eq, HandSHeadRun.tabQ_eq]
  exact run2 w
theorem run3s (w : World) : endA (PySem.W.stepT (denote PySem.treeTable) lawP w) 39 (some (.ref 6)) Amid.left (stB w) Amid.thr1 seenS = some (Amid.objs2 w, {}, #[], {}, Amid.toks2, os0) := by
  rw [HandSHeadRun.stepQ_eq, HandSHeadRun.denQ_eq, HandSHeadRun.tabQ_eq]
  exact run3 w
theorem look1s (w : World) : (openF (fun q => PySem.W.stepT (denote PySem.treeTable) q w) PySem.fenceModules? (Amid.steps0 + (Amid.steps1 + Amid.left)) lawP).map (fun r => HandSHeadRun.looksF lawP r.1.heap (stC w)) = some true := by
  rw [HandSHeadRun.stepQ_eq, HandSHeadRun.denQ_eq, HandSHeadRun.tabQ_eq, HandSHeadRun.fenceQ_eq]
  exact look1 w
theorem left : PySem.W.LeftO lawP viewQ loose recX hookL.obs hookL.val (Amid.steps0 + (Amid.steps1 + Amid.left)) true :=
  left_cut run1s run2s run3s look1s (fun w => (HandSHeadRun.seenQ_eq viewQ loose _ recX (stC w)).trans (look2 w)) (fun w => obT_eq (look3 w))
/-! ### the law's own call -/
theorem law_at (T : Stat) (hT : TailOk) {w : World} {mg : Str → Option Value} {fa : Addr} {h : Heap} (Y : hookL.says w h) (G : h.Ns mainGlobals mg) (hm : mg "law" = some (.ref fa)) : ∃ K, K.In h ∧ LamX.LawAtS L w K CXn 50 63 "_law_script" mg fa h := by
  obtain ⟨F, K, E, c⟩ := Y
  obtain ⟨l1, _⟩ := He.ba T.law
  obtain ⟨g, _, name, qual, params, kV, doc, pm, cdv, ct, oc, an, od, osl, e, hcd, hpl, hps⟩ := def_of c G l1
  have ef : fa = gaE E "law" := by
    have z := hm.symm.trans g
    cases z
    rfl
  refine ⟨F, c.kin, PySem.W.fnOf name qual params lawD.body lawD.scope .none kV doc pm an cdv ct, csOf P0 K E, spLaw F (csOf P0 K E), c.empty, c.out, fun p hp => ?_, fun s u => ?_, ?_, ?_⟩
  · have z : codeHdO (K p.1) p.1 p.2 = true := all_mem (He.ba c.all.tabs).1 hp
    refine PySem.W.codeHd_of_K c.kin (?_ : codeHdO (F.lookup p.1) p.1 p.2 = true)
    cases q : K p.1 with
    | none =>
      rw [q] at z
      cases z
    | some o =>
      rw [q] at z
      rw [c.lk _ _ q]
      exact z
  · exact bind_none (ps := ["_law_script"]) (us := [u]) hpl hps rfl (by decide)
  · exact fun H a ns _ _ hH hS => ⟨a, ns, rfl, hS, hH, fun _ => rfl⟩
  · intro base _ _ hTB
    rw [ef]
    exact law_fn T hT c G hTB e hcd
theorem law_walk (T : Stat) (hT : TailOk) : PySem.W.WalkO viewQ loose (PySem.W.XL viewQ []) hookL.says L.row.toRowW (HandSHeadRun.topDef lawP 293) [] fun f vs => PySem.call f vs := by
  refine LamX.walk_ofTsE (l := L) (n := 63) (k := 50) (x := "_law_script") (CX := fun _ => CXn) rfl (by decide) (by kernel_rfl) ⟨rfl, by decide, by decide⟩ (fun w mg fa h Y G hmg0 => ?_) (fun _ _ _ _ _ z => z)
  have hmg : mg ("law" : PySem.Str) = some (.ref fa) := by
    have e : (HandSHeadRun.topDef lawP 293).name = ("law" : PySem.Str) := by kernel_rfl
    rw [← e]
    exact hmg0
  exact law_at T hT Y G hmg
theorem law_holds (T : Stat) (hT : TailOk) (sd : L.row.wellSaid = true) : PySem.W.OpenRow.Holds L.row := by
  refine PySem.W.holds_open (r := OpenLaw.row L) (q := viewQ) (loose := loose) (Xt := recX) (XP := PySem.W.XL viewQ []) (Yf := hookL.obs) (Ya := hookL.val) (YP := hookL.says) (d := HandSHeadRun.topDef lawP 293) (kwd := []) (N := Amid.steps0 + (Amid.steps1 + Amid.left))
    left hookL.of hookL.keeps (fun s z => PySem.W.xl_of s (Bool.and_eq_true_iff.mp z).1) PySem.W.XL.keeps (by kernel_rfl) (by kernel_rfl) (by kernel_rfl) (fun s z => PySem.W.recFacts_of (Bool.and_eq_true_iff.mp z).2) (by rfl) sd (by decide +kernel) bareL ?hw (law_walk T hT)
  case hw => w_witness2
theorem law_done (T : Stat) (hT : TailOk) : L.Holds := holds_law said fun s => law_holds T hT s
end K76
end

theorem PySem.Challenge.cw_wholefaces_k76_whole_names_a_to_c_holds : PySem.Challenge.rw_wholefaces_k76_whole_names_a_to_c.Holds := by
  exact K76.law_done K76.stat K76.tails
