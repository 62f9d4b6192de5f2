import PyProof.Rows.All
import Wide.All
import OpenK.AllK
import Wide.FinOn
import HandS.Base
import HandS.Call
import HandS.Ends
import HandS.Words
import HandS.HeadHook1
import HandS.HeadHook2
import KE.KStateDown
import HandS.Head0
import HandS.Head1
import HandS.Head2
import HandS.Head3
import HandS.HeadEnd
import HandS.List
import HandS.Comp
import HandS.Iter
import HandS.Text
import HandS.WordsList
import HandS.Walk
import HandS.Gcd
import HandS.Wide
import HandS.WideBits
import HandS.IsInst
import HandS.NoneIn
import HandS.Style
import HandS.TupMul
import HandS.TupAny
import HandS.Conv
import KE.KIndexOf
import KE.GoesEnum
import HandS.Defaults
import HandS.Codes
import PySem.Challenge.RW_guestseats_k37_whole_lowerings
section
set_option Elab.async false
set_option linter.all false
set_option maxRecDepth 100000
set_option maxHeartbeats 0
noncomputable section
namespace Gu
open PySem PySem.Spec PyProof.Rows L2
abbrev PR : Program := PySem.Challenge.pw_guestseats_k37_whole_lowerings
def topS (i : Nat) : Stmt := PR.main.body.getD i (.Pass ⟨0, 0, 0, 0⟩)
def dd (x : Str) (i : Nat) : He.DefD := ⟨(x, none), x, x, defArgs (topS i), defBody (topS i), defScope (topS i), [], []⟩
def fn0 : List He.DefD := [dd "is_whole" 9, dd "is_between" 10, dd "are_wholes" 11, dd "divisor_of" 12, dd "lowest" 13, dd "is_ratio" 19, dd "ratio" 20, dd "minus" 22, dd "plus" 21, dd "times" 23, dd "over" 24, dd "total_of" 26, dd "is_below" 27, dd "is_amount" 56, dd "is_carrier" 57, dd "check_carrier" 58, dd "seat_count" 60, dd "has_guest" 61, dd "with_seats" 62, dd "bit_of" 72]
def fn1 : List He.DefD := [dd "is_free" 73, dd "free_standings" 74, dd "link_over" 75, dd "seat_pairs" 76, dd "all_links" 77, dd "weights_at" 79, dd "share_of" 80, dd "pull_of" 81, dd "shunned_link" 82, dd "leaning_strengths" 83, dd "lowering" 84, dd "certify_draws" 140, dd "is_lowering" 146, dd "shows_draws" 147, dd "is_of_one" 161, dd "is_claim" 164, dd "shows_of_carriers" 166, dd "accepts" 168, dd "_law_vat" 170, dd "_law_sip" 171]
def fn2 : List He.DefD := [dd "_law_of" 172, dd "_law_common" 173, dd "_law_low" 174, dd "_law_take" 175, dd "_law_mul" 176, dd "_law_over" 177, dd "_law_under" 178, dd "_law_power" 179, dd "_law_some" 180, dd "_law_dose" 181, dd "_law_has" 182, dd "_law_count_seats" 183, dd "_law_product" 184, dd "_law_free" 185, dd "_law_knot" 186, dd "_law_knots" 187, dd "_law_bench" 188, dd "_law_scaled_up" 189, dd "_law_parts" 190, dd "_law_share" 191]
def fn3 : List He.DefD := [dd "_law_seated" 192, dd "_law_both" 193, dd "_law_laps" 194, dd "_law_seat_pair" 195, dd "_law_link" 196, dd "_law_drawing" 197, dd "_law_owns" 198, dd "_law_pull" 199, dd "_law_first" 200, dd "_law_due" 201, dd "_law_lowers" 202, dd "_law_right" 203, dd "law" 204]
def fnA : List He.DefD := fn0 ++ fn1 ++ fn2 ++ fn3
def fg0 : List He.Fa := [.glo "is_whole", .glo "is_between", .glo "are_wholes", .glo "divisor_of", .glo "lowest", .glo "is_ratio", .glo "ratio", .glo "minus", .glo "plus", .glo "times", .glo "over", .glo "total_of", .glo "is_below", .glo "is_amount", .glo "is_carrier", .glo "check_carrier", .glo "seat_count", .glo "has_guest", .glo "with_seats", .glo "bit_of"]
def fg1 : List He.Fa := [.glo "is_free", .glo "free_standings", .glo "link_over", .glo "seat_pairs", .glo "all_links", .glo "weights_at", .glo "share_of", .glo "pull_of", .glo "shunned_link", .glo "leaning_strengths", .glo "lowering", .glo "certify_draws", .glo "is_lowering", .glo "shows_draws", .glo "is_of_one", .glo "is_claim", .glo "shows_of_carriers", .glo "accepts", .glo "_law_vat", .glo "_law_sip"]
def fg2 : List He.Fa := [.glo "_law_of", .glo "_law_common", .glo "_law_low", .glo "_law_take", .glo "_law_mul", .glo "_law_over", .glo "_law_under", .glo "_law_power", .glo "_law_some", .glo "_law_dose", .glo "_law_has", .glo "_law_count_seats", .glo "_law_product", .glo "_law_free", .glo "_law_knot", .glo "_law_knots", .glo "_law_bench", .glo "_law_scaled_up", .glo "_law_parts", .glo "_law_share"]
def fg3 : List He.Fa := [.glo "_law_seated", .glo "_law_both", .glo "_law_laps", .glo "_law_seat_pair", .glo "_law_link", .glo "_law_drawing", .glo "_law_owns", .glo "_law_pull", .glo "_law_first", .glo "_law_due", .glo "_law_lowers", .glo "_law_right", .glo "law"]
def fgA : List He.Fa := fg0 ++ fg1 ++ fg2 ++ fg3 ++ [.glo "ZERO", .glo "ONE", .glo "SIZES"] ++ [.free "isinstance", .free "int", .free "bool", .free "tuple", .free "len", .free "all", .free "any", .free "range", .free "enumerate", .free "list", .free "sum", .free "abs", .free "divmod", .free "max", .free "min", .free "repr", .free "str"]
def sizO : Option Obj → Bool
  | some ⟨.type t, none, _, _⟩ => t == "tuple"
  | _ => false
def sizB (K : PySem.W.Frag) : Bool := sizO (K.lookup (He.ga K "SIZES"))
def exB (K : PySem.W.Frag) : Bool := He.eqO (PySem.W.nsIn K mainGlobals "gcd") (some (some (.builtin "math.gcd"))) && (He.tupB K "ZERO" [.int 0, .int 1] && (He.tupB K "ONE" [.int 1, .int 1] && (He.tupB K "SIZES" [.int 2, .int 4, .int 8, .int 16, .int 32] && sizB K)))
end Gu
end
end
section
set_option Elab.async false
set_option linter.all false
set_option maxRecDepth 100000
set_option maxHeartbeats 0
namespace Gu
open PySem PySem.Spec PyProof.Rows L2
def dA (l : List Value) : Array Value := Array.mk l
def dB (l : List DictEntry) : Array DictEntry := Array.mk l
def dN : Array (Option Value) := Array.mk []
def dS (l : List (Option Value)) : Array (Option Value) := Array.mk l
def sN (l : List Nat) : Str := ⟨Array.mk l⟩
def dE (P : Params) (k : Str) (t : Tok) (v : Value) : DictEntry := ⟨PyData.keyHash P k, .str k t, v⟩
def dF (x q : Str) (st : Stmt) (g : Addr) (cl : List (Str × Addr)) (d kd doc pm : Value) (an : Option Addr) (cd ct : Value) (bl : Addr) : FuncData :=
  ⟨x, q, defArgs st, .stmts (defBody st), defScope st, g, cl, d, kd, doc, pm, an, cd, ct, bl⟩
def insAll : List Obj → PySem.W.BT → Nat → PySem.W.BT
  | [], t, _ => t
  | o :: r, t, n => insAll r (t.ins n o) (n + 1)
def setAll : List (Nat × Obj) → PySem.W.BT → PySem.W.BT
  | [], t => t
  | (i, o) :: r, t => setAll r (t.set i fun _ => o)
/-! ### the objects behind each group of the top's statements -/
def ob0_0 (P : Params) : List Obj := [
  ⟨.type "dict", none, .dict (dB [dE P "__name__" 1 (.str "builtins" 160), dE P "__doc__" 2 (.builtin "builtins.__doc__:str#opaque"), dE P "__package__" 3 (.builtin "builtins.__package__:str#opaque"), dE P "__loader__" 4 (.builtin "builtins.__loader__:shared#opaque"), dE P "__spec__" 5 (.builtin "builtins.__spec__#opaque"), dE P "__build_class__" 6 (.builtin "__build_class__"), dE P "__import__" 7 (.builtin "__import__"), dE P "abs" 8 (.builtin "abs"), dE P "all" 9 (.builtin "all"), dE P "any" 10 (.builtin "any"), dE P "ascii" 11 (.builtin "ascii"), dE P "bin" 12 (.builtin "bin"), dE P "breakpoint" 13 (.builtin "breakpoint"), dE P "callable" 14 (.builtin "callable"), dE P "chr" 15 (.builtin "chr"), dE P "compile" 16 (.builtin "compile"), dE P "delattr" 17 (.builtin "delattr"), dE P "dir" 18 (.builtin "dir"), dE P "divmod" 19 (.builtin "divmod"), dE P "eval" 20 (.builtin "eval"), dE P "exec" 21 (.builtin "exec"), dE P "format" 22 (.builtin "format"), dE P "getattr" 23 (.builtin "getattr"), dE P "globals" 24 (.builtin "globals"), dE P "hasattr" 25 (.builtin "hasattr"), dE P "hash" 26 (.builtin "hash"), dE P "hex" 27 (.builtin "hex"), dE P "id" 28 (.builtin "id"), dE P "input" 29 (.builtin "input"), dE P "isinstance" 30 (.builtin "isinstance"), dE P "issubclass" 31 (.builtin "issubclass"), dE P "iter" 32 (.builtin "iter"), dE P "aiter" 33 (.builtin "aiter"), dE P "len" 34 (.builtin "len"), dE P "locals" 35 (.builtin "locals"), dE P "max" 36 (.builtin "max"), dE P "min" 37 (.builtin "min"), dE P "next" 38 (.builtin "next"), dE P "anext" 39 (.builtin "anext"), dE P "oct" 40 (.builtin "oct"), dE P "ord" 41 (.builtin "ord"), dE P "pow" 42 (.builtin "pow"), dE P "print" 43 (.builtin "print"), dE P "repr" 44 (.builtin "repr"), dE P "round" 45 (.builtin "round"), dE P "setattr" 46 (.builtin "setattr"), dE P "sorted" 47 (.builtin "sorted"), dE P "sum" 48 (.builtin "sum"), dE P "vars" 49 (.builtin "vars"), dE P "None" 50 (.none), dE P "Ellipsis" 51 (.ellipsis), dE P "NotImplemented" 52 (.notImplemented), dE P "False" 53 (.bool false), dE P "True" 54 (.bool true), dE P "bool" 55 (.type "bool"), dE P "memoryview" 56 (.type "memoryview"), dE P "bytearray" 57 (.type "bytearray"), dE P "bytes" 58 (.type "bytes"), dE P "classmethod" 59 (.type "classmethod"), dE P "complex" 60 (.type "complex"), dE P "dict" 61 (.type "dict"), dE P "enumerate" 62 (.type "enumerate"), dE P "filter" 63 (.type "filter"), dE P "float" 64 (.type "float"), dE P "frozenset" 65 (.type "frozenset"), dE P "property" 66 (.type "property"), dE P "int" 67 (.type "int"), dE P "list" 68 (.type "list"), dE P "map" 69 (.type "map"), dE P "object" 70 (.type "object"), dE P "range" 71 (.type "range"), dE P "reversed" 72 (.type "reversed"), dE P "set" 73 (.type "set"), dE P "slice" 74 (.type "slice"), dE P "staticmethod" 75 (.type "staticmethod"), dE P "str" 76 (.type "str"), dE P "super" 77 (.type "super"), dE P "tuple" 78 (.type "tuple"), dE P "type" 79 (.type "type"), dE P "zip" 80 (.type "zip"), dE P "__debug__" 81 (.bool true), dE P "BaseException" 82 (.type "BaseException"), dE P "BaseExceptionGroup" 83 (.type "BaseExceptionGroup"), dE P "Exception" 84 (.type "Exception"), dE P "GeneratorExit" 85 (.type "GeneratorExit"), dE P "KeyboardInterrupt" 86 (.type "KeyboardInterrupt"), dE P "SystemExit" 87 (.type "SystemExit"), dE P "ArithmeticError" 88 (.type "ArithmeticError"), dE P "AssertionError" 89 (.type "AssertionError"), dE P "AttributeError" 90 (.type "AttributeError"), dE P "BufferError" 91 (.type "BufferError"), dE P "EOFError" 92 (.type "EOFError"), dE P "ImportError" 93 (.type "ImportError"), dE P "LookupError" 94 (.type "LookupError"), dE P "MemoryError" 95 (.type "MemoryError"), dE P "NameError" 96 (.type "NameError"), dE P "OSError" 97 (.type "OSError"), dE P "ReferenceError" 98 (.type "ReferenceError"), dE P "RuntimeError" 99 (.type "RuntimeError"), dE P "StopAsyncIteration" 100 (.type "StopAsyncIteration"), dE P "StopIteration" 101 (.type "StopIteration"), dE P "SyntaxError" 102 (.type "SyntaxError"), dE P "SystemError" 103 (.type "SystemError"), dE P "TypeError" 104 (.type "TypeError"), dE P "ValueError" 105 (.type "ValueError"), dE P "Warning" 106 (.type "Warning"), dE P "FloatingPointError" 107 (.type "FloatingPointError"), dE P "OverflowError" 108 (.type "OverflowError"), dE P "ZeroDivisionError" 109 (.type "ZeroDivisionError"), dE P "BytesWarning" 110 (.type "BytesWarning"), dE P "DeprecationWarning" 111 (.type "DeprecationWarning"), dE P "EncodingWarning" 112 (.type "EncodingWarning"), dE P "FutureWarning" 113 (.type "FutureWarning"), dE P "ImportWarning" 114 (.type "ImportWarning"), dE P "PendingDeprecationWarning" 115 (.type "PendingDeprecationWarning"), dE P "ResourceWarning" 116 (.type "ResourceWarning"), dE P "RuntimeWarning" 117 (.type "RuntimeWarning"), dE P "SyntaxWarning" 118 (.type "SyntaxWarning"), dE P "UnicodeWarning" 119 (.type "UnicodeWarning"), dE P "UserWarning" 120 (.type "UserWarning"), dE P "BlockingIOError" 121 (.type "BlockingIOError"), dE P "ChildProcessError" 122 (.type "ChildProcessError"), dE P "ConnectionError" 123 (.type "ConnectionError"), dE P "FileExistsError" 124 (.type "FileExistsError"), dE P "FileNotFoundError" 125 (.type "FileNotFoundError"), dE P "InterruptedError" 126 (.type "InterruptedError"), dE P "IsADirectoryError" 127 (.type "IsADirectoryError"), dE P "NotADirectoryError" 128 (.type "NotADirectoryError"), dE P "PermissionError" 129 (.type "PermissionError"), dE P "ProcessLookupError" 130 (.type "ProcessLookupError"), dE P "TimeoutError" 131 (.type "TimeoutError"), dE P "IndentationError" 132 (.type "IndentationError"), dE P "_IncompleteInputError" 133 (.type "_IncompleteInputError"), dE P "IndexError" 134 (.type "IndexError"), dE P "KeyError" 135 (.type "KeyError"), dE P "ModuleNotFoundError" 136 (.type "ModuleNotFoundError"), dE P "NotImplementedError" 137 (.type "NotImplementedError"), dE P "PythonFinalizationError" 138 (.type "PythonFinalizationError"), dE P "RecursionError" 139 (.type "RecursionError"), dE P "UnboundLocalError" 140 (.type "UnboundLocalError"), dE P "UnicodeError" 141 (.type "UnicodeError"), dE P "BrokenPipeError" 142 (.type "BrokenPipeError"), dE P "ConnectionAbortedError" 143 (.type "ConnectionAbortedError"), dE P "ConnectionRefusedError" 144 (.type "ConnectionRefusedError"), dE P "ConnectionResetError" 145 (.type "ConnectionResetError"), dE P "TabError" 146 (.type "TabError"), dE P "UnicodeDecodeError" 147 (.type "UnicodeDecodeError"), dE P "UnicodeEncodeError" 148 (.type "UnicodeEncodeError"), dE P "UnicodeTranslateError" 149 (.type "UnicodeTranslateError"), dE P "ExceptionGroup" 150 (.type "ExceptionGroup"), dE P "EnvironmentError" 151 (.type "OSError"), dE P "IOError" 152 (.type "OSError"), dE P "open" 153 (.builtin "open"), dE P "quit" 154 (.builtin "builtins.quit#opaque"), dE P "exit" 155 (.builtin "builtins.exit#opaque"), dE P "copyright" 156 (.builtin "builtins.copyright#opaque"), dE P "credits" 157 (.builtin "builtins.credits#opaque"), dE P "license" 158 (.builtin "builtins.license#opaque"), dE P "help" 159 (.builtin "builtins.help#opaque")]) 159, dN⟩,
  ⟨.type "dict", none, .dict (dB [dE P "builtins" 162 (.ref 4), dE P "__main__" 163 (.ref 5), dE P "math" 285 (.ref 13)]) 3, dN⟩,
  ⟨.none, none, .dict (dB [dE P "\x69mport.loaded.math" 186 (.bool true), dE P "class._frozen_importlib_external._LoaderBasics" 191 (.ref 16), dE P "watched.\x69mport" 207 (.ref 20), dE P "class._frozen_importlib_external.FileLoader" 208 (.ref 22), dE P "class._frozen_importlib_external.ExtensionFileLoader" 229 (.ref 27), dE P "class._frozen_importlib.ModuleSpec" 257 (.ref 33), dE P "sys.modules.booked-epoch" 286 (.int 3 0), dE P "\x69mport.later-laid.math" 362 (.bool true), dE P "watched.library" 364 (.ref 38), dE P "watched.library-objects" 0 (.str (sN [13]) 0)]) 10, dN⟩,
  ⟨.type "dict", none, .dict (dB [dE P "__name__" 165 (.str "__main__" 164), dE P "__doc__" 166 (.none), dE P "__package__" 167 (.none), dE P "__loader__" 168 (.builtin "__main__.__loader__#opaque"), dE P "__spec__" 169 (.none), dE P "__annotations__" 170 (.ref 6), dE P "__builtins__" 171 (.ref 4), dE P "__file__" 173 (.str "/claim/cut.py" 172), dE P "__cached__" 174 (.none), dE P "gcd" 370 (.builtin "math.gcd"), dE P "lcm" 373 (.builtin "math.lcm")]) 11, dN⟩,
  ⟨.type "module", some 0, .plain, dN⟩,
  ⟨.type "module", some 3, .plain, dN⟩,
  ⟨.type "dict", none, .dict (dB []) 0, dN⟩,
  ⟨.type "tuple", none, .seq (dA []) 0, dN⟩,
  ⟨.none, none, .fields (dA []), dN⟩,
  ⟨.type "code", none, .fields (dA [.str "<module>" 176, .str "<module>" 177, .str "/claim/cut.py" 178, .int 1 0, .int 0 0, .int 0 0, .int 0 0, .int 0 0, .ref 7, .bool false, .int 175 0, .ref 8, .none, .none, .none, .none, .int 179 0, .int 1 0, .str "/claim/cut.py" 180]), dN⟩,
  ⟨.type "frame", none, .plain, dS [some (.ref 9), some (.ref 3), some (.ref 3), none, some (.str "__main__" 164), none, some (.ref 0)]⟩,
  ⟨.type "tuple", none, .seq (dA [.str "gcd" 182, .str "lcm" 183]) 0, dN⟩,
  ⟨.type "dict", none, .dict (dB [dE P "__name__" 288 (.str "math" 287), dE P "__doc__" 289 (.builtin "off-the-table:math.__doc__:shared#opaque"), dE P "__package__" 291 (.str "" 290), dE P "__loader__" 292 (.builtin "off-the-table:math.__loader__:shared#opaque"), dE P "__spec__" 293 (.builtin "off-the-table:math.__spec__:shared#opaque"), dE P "acos" 294 (.builtin "off-the-table:math.acos:shared#opaque"), dE P "acosh" 295 (.builtin "off-the-table:math.acosh:shared#opaque"), dE P "asin" 296 (.builtin "off-the-table:math.asin:shared#opaque"), dE P "asinh" 297 (.builtin "off-the-table:math.asinh:shared#opaque"), dE P "atan" 298 (.builtin "off-the-table:math.atan:shared#opaque"), dE P "atan2" 299 (.builtin "off-the-table:math.atan2:shared#opaque"), dE P "atanh" 300 (.builtin "off-the-table:math.atanh:shared#opaque"), dE P "cbrt" 301 (.builtin "off-the-table:math.cbrt:shared#opaque"), dE P "ceil" 302 (.builtin "math.ceil"), dE P "copysign" 303 (.builtin "math.copysign"), dE P "cos" 304 (.builtin "off-the-table:math.cos:shared#opaque"), dE P "cosh" 305 (.builtin "off-the-table:math.cosh:shared#opaque"), dE P "degrees" 306 (.builtin "math.degrees"), dE P "dist" 307 (.builtin "math.dist"), dE P "erf" 308 (.builtin "off-the-table:math.erf:shared#opaque"), dE P "erfc" 309 (.builtin "off-the-table:math.erfc:shared#opaque"), dE P "exp" 310 (.builtin "off-the-table:math.exp:shared#opaque"), dE P "exp2" 311 (.builtin "off-the-table:math.exp2:shared#opaque"), dE P "expm1" 312 (.builtin "off-the-table:math.expm1:shared#opaque"), dE P "fabs" 313 (.builtin "math.fabs"), dE P "factorial" 314 (.builtin "math.factorial"), dE P "floor" 315 (.builtin "math.floor"), dE P "fma" 316 (.builtin "math.fma"), dE P "fmod" 317 (.builtin "math.fmod"), dE P "frexp" 318 (.builtin "math.frexp"), dE P "fsum" 319 (.builtin "math.fsum"), dE P "gamma" 320 (.builtin "off-the-table:math.gamma:shared#opaque"), dE P "gcd" 321 (.builtin "math.gcd"), dE P "hypot" 322 (.builtin "math.hypot"), dE P "isclose" 323 (.builtin "math.isclose"), dE P "isfinite" 324 (.builtin "math.isfinite"), dE P "isinf" 325 (.builtin "math.isinf"), dE P "isnan" 326 (.builtin "math.isnan"), dE P "isqrt" 327 (.builtin "math.isqrt"), dE P "lcm" 328 (.builtin "math.lcm"), dE P "ldexp" 329 (.builtin "math.ldexp"), dE P "lgamma" 330 (.builtin "off-the-table:math.lgamma:shared#opaque"), dE P "log" 331 (.builtin "off-the-table:math.log:shared#opaque"), dE P "log1p" 332 (.builtin "off-the-table:math.log1p:shared#opaque"), dE P "log10" 333 (.builtin "off-the-table:math.log10:shared#opaque"), dE P "log2" 334 (.builtin "off-the-table:math.log2:shared#opaque"), dE P "modf" 335 (.builtin "math.modf"), dE P "pow" 336 (.builtin "off-the-table:math.pow:shared#opaque"), dE P "radians" 337 (.builtin "math.radians"), dE P "remainder" 338 (.builtin "math.remainder"), dE P "sin" 339 (.builtin "off-the-table:math.sin:shared#opaque"), dE P "sinh" 340 (.builtin "off-the-table:math.sinh:shared#opaque"), dE P "sqrt" 341 (.builtin "math.sqrt"), dE P "tan" 342 (.builtin "off-the-table:math.tan:shared#opaque"), dE P "tanh" 343 (.builtin "off-the-table:math.tanh:shared#opaque"), dE P "sumprod" 344 (.builtin "math.sumprod"), dE P "trunc" 345 (.builtin "math.trunc"), dE P "prod" 346 (.builtin "math.prod"), dE P "perm" 347 (.builtin "math.perm"), dE P "comb" 348 (.builtin "math.comb"), dE P "nextafter" 349 (.builtin "math.nextafter"), dE P "ulp" 350 (.builtin "math.ulp"), dE P "__file__" 351 (.str "/nix/store/wj1f56qky4pmjc7l0r6b6l7whnnw7hp6-python3-3.13.15/lib/python3.13/lib-dynload/math.cpython-313-x86_64-linux-gnu.so" 187), dE P "pi" 353 (.float 4614256656552045848 352), dE P "e" 355 (.float 4613303445314885481 354), dE P "tau" 357 (.float 4618760256179416344 356), dE P "inf" 359 (.float 9218868437227405312 358), dE P "nan" 361 (.float 9221120237041090560 360)]) 68, dN⟩,
  ⟨.type "module", some 12, .plain, dN⟩,
  ⟨.type "dict", none, .dict (dB [dE P "name" 189 (.str "math" 188), dE P "path" 190 (.str "/nix/store/wj1f56qky4pmjc7l0r6b6l7whnnw7hp6-python3-3.13.15/lib/python3.13/lib-dynload/math.cpython-313-x86_64-linux-gnu.so" 187)]) 2, dN⟩,
  ⟨.type "dict", none, .dict (dB [dE P "__module__" 194 (.str "_frozen_importlib_external" 192), dE P "__firstlineno__" 195 (.int 1001 193), dE P "__doc__" 196 (.builtin "_frozen_importlib_external._LoaderBasics.__doc__:str#opaque"), dE P "is_package" 197 (.builtin "_frozen_importlib_external._LoaderBasics.is_package#opaque"), dE P "create_module" 198 (.builtin "_frozen_importlib_external._LoaderBasics.create_module#opaque"), dE P "exec_module" 199 (.builtin "_frozen_importlib_external._LoaderBasics.exec_module#opaque"), dE P "load_module" 200 (.builtin "_frozen_importlib_external._LoaderBasics.load_module#opaque"), dE P "__static_attributes__" 201 (.ref 17), dE P "__dict__" 203 (.ref 18), dE P "__weakref__" 205 (.ref 19)]) 10, dN⟩,
  ⟨.type "type", none, .cls ⟨"_LoaderBasics", [.type "object"], [.ref 16, .type "object"], 15, "_LoaderBasics", true, [], [.ref 27], false, none, false⟩, dN⟩,
  ⟨.type "tuple", none, .seq (dA []) 0, dN⟩,
  ⟨.type "getset_descriptor", none, .fields (dA [.str "__dict__" 202, .ref 16, .builtin "function.__dict__", .builtin "function.__dict__#set"]), dN⟩,
  ⟨.type "getset_descriptor", none, .fields (dA [.str "__weakref__" 204, .ref 16, .builtin "ExceptionGroup.__weakref__", .none]), dN⟩,
  ⟨.none, none, .seq (dA [.int 15 0, .str (sN [6, 194, 10, 95, 95, 109, 111, 100, 117, 108, 101, 95, 95, 6, 192, 26, 95, 102, 114, 111, 122, 101, 110, 95, 105, 109, 112, 111, 114, 116, 108, 105, 98, 95, 101, 120, 116, 101, 114, 110, 97, 108, 6, 195, 15, 95, 95, 102, 105, 114, 115, 116, 108, 105, 110, 101, 110, 111, 95, 95, 4, 193, 0, 1001, 6, 196, 7, 95, 95, 100, 111, 99, 95, 95, 9, 59, 95, 102, 114, 111, 122, 101, 110, 95, 105, 109, 112, 111, 114, 116, 108, 105, 98, 95, 101, 120, 116, 101, 114, 110, 97, 108, 46, 95, 76, 111, 97, 100, 101, 114, 66, 97, 115, 105, 99, 115, 46, 95, 95, 100, 111, 99, 95, 95, 58, 115, 116, 114, 35, 111, 112, 97, 113, 117, 101, 6, 197, 10, 105, 115, 95, 112, 97, 99, 107, 97, 103, 101, 9, 58, 95, 102, 114, 111, 122, 101, 110, 95, 105, 109, 112, 111, 114, 116, 108, 105, 98, 95, 101, 120, 116, 101, 114, 110, 97, 108, 46, 95, 76, 111, 97, 100, 101, 114, 66, 97, 115, 105, 99, 115, 46, 105, 115, 95, 112, 97, 99, 107, 97, 103, 101, 35, 111, 112, 97, 113, 117, 101, 6, 198, 13, 99, 114, 101, 97, 116, 101, 95, 109, 111, 100, 117, 108, 101, 9, 61, 95, 102, 114, 111, 122, 101, 110, 95, 105, 109, 112, 111, 114, 116, 108, 105, 98, 95, 101, 120, 116, 101, 114, 110, 97, 108, 46, 95, 76, 111, 97, 100, 101, 114, 66, 97, 115, 105, 99, 115, 46, 99, 114, 101, 97, 116, 101, 95, 109, 111, 100, 117, 108, 101, 35, 111, 112, 97, 113, 117, 101, 6, 199, 11, 101, 120, 101, 99, 95, 109, 111, 100, 117, 108, 101, 9, 59, 95, 102, 114, 111, 122, 101, 110, 95, 105, 109, 112, 111, 114, 116, 108, 105, 98, 95, 101, 120, 116, 101, 114, 110, 97, 108, 46, 95, 76, 111, 97, 100, 101, 114, 66, 97, 115, 105, 99, 115, 46, 101, 120, 101, 99, 95, 109, 111, 100, 117, 108, 101, 35, 111, 112, 97, 113, 117, 101, 6, 200, 11, 108, 111, 97, 100, 95, 109, 111, 100, 117, 108, 101, 9, 59, 95, 102, 114, 111, 122, 101, 110, 95, 105, 109, 112, 111, 114, 116, 108, 105, 98, 95, 101, 120, 116, 101, 114, 110, 97, 108, 46, 95, 76, 111, 97, 100, 101, 114, 66, 97, 115, 105, 99, 115, 46, 108, 111, 97, 100, 95, 109, 111, 100, 117, 108, 101, 35, 111, 112, 97, 113, 117, 101, 6, 201, 21, 95, 95, 115, 116, 97, 116, 105, 99, 95, 97, 116, 116, 114, 105, 98, 117, 116, 101, 115, 95, 95, 4, 0, 0, 17, 6, 203, 8, 95, 95, 100, 105, 99, 116, 95, 95, 4, 0, 0, 18, 6, 205, 11, 95, 95, 119, 101, 97, 107, 114, 101, 102, 95, 95, 4, 0, 0, 19]) 0, .bool true, .bool true, .str "" 206, .int 21 0, .str (sN [6, 213, 10, 95, 95, 109, 111, 100, 117, 108, 101, 95, 95, 6, 209, 26, 95, 102, 114, 111, 122, 101, 110, 95, 105, 109, 112, 111, 114, 116, 108, 105, 98, 95, 101, 120, 116, 101, 114, 110, 97, 108, 6, 214, 15, 95, 95, 102, 105, 114, 115, 116, 108, 105, 110, 101, 110, 111, 95, 95, 4, 210, 0, 1176, 6, 215, 7, 95, 95, 100, 111, 99, 95, 95, 9, 56, 95, 102, 114, 111, 122, 101, 110, 95, 105, 109, 112, 111, 114, 116, 108, 105, 98, 95, 101, 120, 116, 101, 114, 110, 97, 108, 46, 70, 105, 108, 101, 76, 111, 97, 100, 101, 114, 46, 95, 95, 100, 111, 99, 95, 95, 58, 115, 116, 114, 35, 111, 112, 97, 113, 117, 101, 6, 216, 8, 95, 95, 105, 110, 105, 116, 95, 95, 9, 53, 95, 102, 114, 111, 122, 101, 110, 95, 105, 109, 112, 111, 114, 116, 108, 105, 98, 95, 101, 120, 116, 101, 114, 110, 97, 108, 46, 70, 105, 108, 101, 76, 111, 97, 100, 101, 114, 46, 95, 95, 105, 110, 105, 116, 95, 95, 35, 111, 112, 97, 113, 117, 101, 6, 217, 6, 95, 95, 101, 113, 95, 95, 9, 51, 95, 102, 114, 111, 122, 101, 110, 95, 105, 109, 112, 111, 114, 116, 108, 105, 98, 95, 101, 120, 116, 101, 114, 110, 97, 108, 46, 70, 105, 108, 101, 76, 111, 97, 100, 101, 114, 46, 95, 95, 101, 113, 95, 95, 35, 111, 112, 97, 113, 117, 101, 6, 218, 8, 95, 95, 104, 97, 115, 104, 95, 95, 9, 53, 95, 102, 114, 111, 122, 101, 110, 95, 105, 109, 112, 111, 114, 116, 108, 105, 98, 95, 101, 120, 116, 101, 114, 110, 97, 108, 46, 70, 105, 108, 101, 76, 111, 97, 100, 101, 114, 46, 95, 95, 104, 97, 115, 104, 95, 95, 35, 111, 112, 97, 113, 117, 101, 6, 219, 11, 108, 111, 97, 100, 95, 109, 111, 100, 117, 108, 101, 9, 56, 95, 102, 114, 111, 122, 101, 110, 95, 105, 109, 112, 111, 114, 116, 108, 105, 98, 95, 101, 120, 116, 101, 114, 110, 97, 108, 46, 70, 105, 108, 101, 76, 111, 97, 100, 101, 114, 46, 108, 111, 97, 100, 95, 109, 111, 100, 117, 108, 101, 35, 111, 112, 97, 113, 117, 101, 6, 220, 12, 103, 101, 116, 95, 102, 105, 108, 101, 110, 97, 109, 101, 9, 57, 95, 102, 114, 111, 122, 101, 110, 95, 105, 109, 112, 111, 114, 116, 108, 105, 98, 95, 101, 120, 116, 101, 114, 110, 97, 108, 46, 70, 105, 108, 101, 76, 111, 97, 100, 101, 114, 46, 103, 101, 116, 95, 102, 105, 108, 101, 110, 97, 109, 101, 35, 111, 112, 97, 113, 117, 101, 6, 221, 8, 103, 101, 116, 95, 100, 97, 116, 97, 9, 53, 95, 102, 114, 111, 122, 101, 110, 95, 105, 109, 112, 111, 114, 116, 108, 105, 98, 95, 101, 120, 116, 101, 114, 110, 97, 108, 46, 70, 105, 108, 101, 76, 111, 97, 100, 101, 114, 46, 103, 101, 116, 95, 100, 97, 116, 97, 35, 111, 112, 97, 113, 117, 101, 6, 222, 19, 103, 101, 116, 95, 114, 101, 115, 111, 117, 114, 99, 101, 95, 114, 101, 97, 100, 101, 114, 9, 64, 95, 102, 114, 111, 122, 101, 110, 95, 105, 109, 112, 111, 114, 116, 108, 105, 98, 95, 101, 120, 116, 101, 114, 110, 97, 108, 46, 70, 105, 108, 101, 76, 111, 97, 100, 101, 114, 46, 103, 101, 116, 95, 114, 101, 115, 111, 117, 114, 99, 101, 95, 114, 101, 97, 100, 101, 114, 35, 111, 112, 97, 113, 117, 101, 6, 223, 21, 95, 95, 115, 116, 97, 116, 105, 99, 95, 97, 116, 116, 114, 105, 98, 117, 116, 101, 115, 95, 95, 4, 0, 0, 23, 6, 225, 8, 95, 95, 100, 105, 99, 116, 95, 95, 4, 0, 0, 24, 6, 227, 11, 95, 95, 119, 101, 97, 107, 114, 101, 102, 95, 95, 4, 0, 0, 25]) 0, .bool true, .bool true, .str "" 228, .int 26 0, .str (sN [6, 234, 10, 95, 95, 109, 111, 100, 117, 108, 101, 95, 95, 6, 230, 26, 95, 102, 114, 111, 122, 101, 110, 95, 105, 109, 112, 111, 114, 116, 108, 105, 98, 95, 101, 120, 116, 101, 114, 110, 97, 108, 6, 235, 15, 95, 95, 102, 105, 114, 115, 116, 108, 105, 110, 101, 110, 111, 95, 95, 4, 231, 0, 1296, 6, 236, 7, 95, 95, 100, 111, 99, 95, 95, 9, 65, 95, 102, 114, 111, 122, 101, 110, 95, 105, 109, 112, 111, 114, 116, 108, 105, 98, 95, 101, 120, 116, 101, 114, 110, 97, 108, 46, 69, 120, 116, 101, 110, 115, 105, 111, 110, 70, 105, 108, 101, 76, 111, 97, 100, 101, 114, 46, 95, 95, 100, 111, 99, 95, 95, 58, 115, 116, 114, 35, 111, 112, 97, 113, 117, 101, 6, 237, 8, 95, 95, 105, 110, 105, 116, 95, 95, 9, 62, 95, 102, 114, 111, 122, 101, 110, 95, 105, 109, 112, 111, 114, 116, 108, 105, 98, 95, 101, 120, 116, 101, 114, 110, 97, 108, 46, 69, 120, 116, 101, 110, 115, 105, 111, 110, 70, 105, 108, 101, 76, 111, 97, 100, 101, 114, 46, 95, 95, 105, 110, 105, 116, 95, 95, 35, 111, 112, 97, 113, 117, 101, 6, 238, 6, 95, 95, 101, 113, 95, 95, 9, 60, 95, 102, 114, 111, 122, 101, 110, 95, 105, 109, 112, 111, 114, 116, 108, 105, 98, 95, 101, 120, 116, 101, 114, 110, 97, 108, 46, 69, 120, 116, 101, 110, 115, 105, 111, 110, 70, 105, 108, 101, 76, 111, 97, 100, 101, 114, 46, 95, 95, 101, 113, 95, 95, 35, 111, 112, 97, 113, 117, 101, 6, 239, 8, 95, 95, 104, 97, 115, 104, 95, 95, 9, 62, 95, 102, 114, 111, 122, 101, 110, 95, 105, 109, 112, 111, 114, 116, 108, 105, 98, 95, 101, 120, 116, 101, 114, 110, 97, 108, 46, 69, 120, 116, 101, 110, 115, 105, 111, 110, 70, 105, 108, 101, 76, 111, 97, 100, 101, 114, 46, 95, 95, 104, 97, 115, 104, 95, 95, 35, 111, 112, 97, 113, 117, 101, 6, 240, 13, 99, 114, 101, 97, 116, 101, 95, 109, 111, 100, 117, 108, 101, 9, 67, 95, 102, 114, 111, 122, 101, 110, 95, 105, 109, 112, 111, 114, 116, 108, 105, 98, 95, 101, 120, 116, 101, 114, 110, 97, 108, 46, 69, 120, 116, 101, 110, 115, 105, 111, 110, 70, 105, 108, 101, 76, 111, 97, 100, 101, 114, 46, 99, 114, 101, 97, 116, 101, 95, 109, 111, 100, 117, 108, 101, 35, 111, 112, 97, 113, 117, 101, 6, 241, 11, 101, 120, 101, 99, 95, 109, 111, 100, 117, 108, 101, 9, 65, 95, 102, 114, 111, 122, 101, 110, 95, 105, 109, 112, 111, 114, 116, 108, 105, 98, 95, 101, 120, 116, 101, 114, 110, 97, 108, 46, 69, 120, 116, 101, 110, 115, 105, 111, 110, 70, 105, 108, 101, 76, 111, 97, 100, 101, 114, 46, 101, 120, 101, 99, 95, 109, 111, 100, 117, 108, 101, 35, 111, 112, 97, 113, 117, 101, 6, 242, 10, 105, 115, 95, 112, 97, 99, 107, 97, 103, 101, 9, 64, 95, 102, 114, 111, 122, 101, 110, 95, 105, 109, 112, 111, 114, 116, 108, 105, 98, 95, 101, 120, 116, 101, 114, 110, 97, 108, 46, 69, 120, 116, 101, 110, 115, 105, 111, 110, 70, 105, 108, 101, 76, 111, 97, 100, 101, 114, 46, 105, 115, 95, 112, 97, 99, 107, 97, 103, 101, 35, 111, 112, 97, 113, 117, 101, 6, 243, 8, 103, 101, 116, 95, 99, 111, 100, 101, 9, 62, 95, 102, 114, 111, 122, 101, 110, 95, 105, 109, 112, 111, 114, 116, 108, 105, 98, 95, 101, 120, 116, 101, 114, 110, 97, 108, 46, 69, 120, 116, 101, 110, 115, 105, 111, 110, 70, 105, 108, 101, 76, 111, 97, 100, 101, 114, 46, 103, 101, 116, 95, 99, 111, 100, 101, 35, 111, 112, 97, 113, 117, 101, 6, 244, 10, 103, 101, 116, 95, 115, 111, 117, 114, 99, 101, 9, 64, 95, 102, 114, 111, 122, 101, 110, 95, 105, 109, 112, 111, 114, 116, 108, 105, 98, 95, 101, 120, 116, 101, 114, 110, 97, 108, 46, 69, 120, 116, 101, 110, 115, 105, 111, 110, 70, 105, 108, 101, 76, 111, 97, 100, 101, 114, 46, 103, 101, 116, 95, 115, 111, 117, 114, 99, 101, 35, 111, 112, 97, 113, 117, 101, 6, 245, 12, 103, 101, 116, 95, 102, 105, 108, 101, 110, 97, 109, 101, 9, 66, 95, 102, 114, 111, 122, 101, 110, 95, 105, 109, 112, 111, 114, 116, 108, 105, 98, 95, 101, 120, 116, 101, 114, 110, 97, 108, 46, 69, 120, 116, 101, 110, 115, 105, 111, 110, 70, 105, 108, 101, 76, 111, 97, 100, 101, 114, 46, 103, 101, 116, 95, 102, 105, 108, 101, 110, 97, 109, 101, 35, 111, 112, 97, 113, 117, 101, 6, 246, 21, 95, 95, 115, 116, 97, 116, 105, 99, 95, 97, 116, 116, 114, 105, 98, 117, 116, 101, 115, 95, 95, 4, 0, 0, 28]) 0, .bool true, .bool true, .str "" 247, .int 32 0, .str (sN [6, 268, 10, 95, 95, 109, 111, 100, 117, 108, 101, 95, 95, 6, 258, 17, 95, 102, 114, 111, 122, 101, 110, 95, 105, 109, 112, 111, 114, 116, 108, 105, 98, 6, 269, 15, 95, 95, 102, 105, 114, 115, 116, 108, 105, 110, 101, 110, 111, 95, 95, 4, 259, 0, 562, 6, 270, 7, 95, 95, 100, 111, 99, 95, 95, 9, 47, 95, 102, 114, 111, 122, 101, 110, 95, 105, 109, 112, 111, 114, 116, 108, 105, 98, 46, 77, 111, 100, 117, 108, 101, 83, 112, 101, 99, 46, 95, 95, 100, 111, 99, 95, 95, 58, 115, 116, 114, 35, 111, 112, 97, 113, 117, 101, 6, 271, 8, 95, 95, 105, 110, 105, 116, 95, 95, 9, 44, 95, 102, 114, 111, 122, 101, 110, 95, 105, 109, 112, 111, 114, 116, 108, 105, 98, 46, 77, 111, 100, 117, 108, 101, 83, 112, 101, 99, 46, 95, 95, 105, 110, 105, 116, 95, 95, 35, 111, 112, 97, 113, 117, 101, 6, 272, 8, 95, 95, 114, 101, 112, 114, 95, 95, 9, 44, 95, 102, 114, 111, 122, 101, 110, 95, 105, 109, 112, 111, 114, 116, 108, 105, 98, 46, 77, 111, 100, 117, 108, 101, 83, 112, 101, 99, 46, 95, 95, 114, 101, 112, 114, 95, 95, 35, 111, 112, 97, 113, 117, 101, 6, 273, 6, 95, 95, 101, 113, 95, 95, 9, 42, 95, 102, 114, 111, 122, 101, 110, 95, 105, 109, 112, 111, 114, 116, 108, 105, 98, 46, 77, 111, 100, 117, 108, 101, 83, 112, 101, 99, 46, 95, 95, 101, 113, 95, 95, 35, 111, 112, 97, 113, 117, 101, 6, 274, 6, 99, 97, 99, 104, 101, 100, 9, 42, 95, 102, 114, 111, 122, 101, 110, 95, 105, 109, 112, 111, 114, 116, 108, 105, 98, 46, 77, 111, 100, 117, 108, 101, 83, 112, 101, 99, 46, 99, 97, 99, 104, 101, 100, 35, 111, 112, 97, 113, 117, 101, 6, 275, 6, 112, 97, 114, 101, 110, 116, 9, 42, 95, 102, 114, 111, 122, 101, 110, 95, 105, 109, 112, 111, 114, 116, 108, 105, 98, 46, 77, 111, 100, 117, 108, 101, 83, 112, 101, 99, 46, 112, 97, 114, 101, 110, 116, 35, 111, 112, 97, 113, 117, 101, 6, 276, 12, 104, 97, 115, 95, 108, 111, 99, 97, 116, 105, 111, 110, 9, 48, 95, 102, 114, 111, 122, 101, 110, 95, 105, 109, 112, 111, 114, 116, 108, 105, 98, 46, 77, 111, 100, 117, 108, 101, 83, 112, 101, 99, 46, 104, 97, 115, 95, 108, 111, 99, 97, 116, 105, 111, 110, 35, 111, 112, 97, 113, 117, 101, 6, 277, 21, 95, 95, 115, 116, 97, 116, 105, 99, 95, 97, 116, 116, 114, 105, 98, 117, 116, 101, 115, 95, 95, 4, 0, 0, 34, 6, 279, 8, 95, 95, 100, 105, 99, 116, 95, 95, 4, 0, 0, 35, 6, 281, 11, 95, 95, 119, 101, 97, 107, 114, 101, 102, 95, 95, 4, 0, 0, 36, 6, 282, 8, 95, 95, 104, 97, 115, 104, 95, 95, 0]) 0, .bool true, .bool true, .str "" 283]) 3, dN⟩,
  ⟨.type "dict", none, .dict (dB [dE P "__module__" 213 (.str "_frozen_importlib_external" 209), dE P "__firstlineno__" 214 (.int 1176 210), dE P "__doc__" 215 (.builtin "_frozen_importlib_external.FileLoader.__doc__:str#opaque"), dE P "__init__" 216 (.builtin "_frozen_importlib_external.FileLoader.__init__#opaque"), dE P "__eq__" 217 (.builtin "_frozen_importlib_external.FileLoader.__eq__#opaque"), dE P "__hash__" 218 (.builtin "_frozen_importlib_external.FileLoader.__hash__#opaque"), dE P "load_module" 219 (.builtin "_frozen_importlib_external.FileLoader.load_module#opaque"), dE P "get_filename" 220 (.builtin "_frozen_importlib_external.FileLoader.get_filename#opaque"), dE P "get_data" 221 (.builtin "_frozen_importlib_external.FileLoader.get_data#opaque"), dE P "get_resource_reader" 222 (.builtin "_frozen_importlib_external.FileLoader.get_resource_reader#opaque"), dE P "__static_attributes__" 223 (.ref 23), dE P "__dict__" 225 (.ref 24), dE P "__weakref__" 227 (.ref 25)]) 13, dN⟩,
  ⟨.type "type", none, .cls ⟨"FileLoader", [.type "object"], [.ref 22, .type "object"], 21, "FileLoader", true, [], [.ref 27], false, none, false⟩, dN⟩,
  ⟨.type "tuple", none, .seq (dA [.str "name" 211, .str "path" 212]) 0, dN⟩,
  ⟨.type "getset_descriptor", none, .fields (dA [.str "__dict__" 224, .ref 22, .builtin "function.__dict__", .builtin "function.__dict__#set"]), dN⟩,
  ⟨.type "getset_descriptor", none, .fields (dA [.str "__weakref__" 226, .ref 22, .builtin "ExceptionGroup.__weakref__", .none]), dN⟩,
  ⟨.type "dict", none, .dict (dB [dE P "__module__" 234 (.str "_frozen_importlib_external" 230), dE P "__firstlineno__" 235 (.int 1296 231), dE P "__doc__" 236 (.builtin "_frozen_importlib_external.ExtensionFileLoader.__doc__:str#opaque"), dE P "__init__" 237 (.builtin "_frozen_importlib_external.ExtensionFileLoader.__init__#opaque"), dE P "__eq__" 238 (.builtin "_frozen_importlib_external.ExtensionFileLoader.__eq__#opaque"), dE P "__hash__" 239 (.builtin "_frozen_importlib_external.ExtensionFileLoader.__hash__#opaque"), dE P "create_module" 240 (.builtin "_frozen_importlib_external.ExtensionFileLoader.create_module#opaque"), dE P "exec_module" 241 (.builtin "_frozen_importlib_external.ExtensionFileLoader.exec_module#opaque"), dE P "is_package" 242 (.builtin "_frozen_importlib_external.ExtensionFileLoader.is_package#opaque"), dE P "get_code" 243 (.builtin "_frozen_importlib_external.ExtensionFileLoader.get_code#opaque"), dE P "get_source" 244 (.builtin "_frozen_importlib_external.ExtensionFileLoader.get_source#opaque"), dE P "get_filename" 245 (.builtin "_frozen_importlib_external.ExtensionFileLoader.get_filename#opaque"), dE P "__static_attributes__" 246 (.ref 28)]) 13, dN⟩,
  ⟨.type "type", none, .cls ⟨"ExtensionFileLoader", [.ref 22, .ref 16], [.ref 27, .ref 22, .ref 16, .type "object"], 26, "ExtensionFileLoader", true, [], [], false, none, false⟩, dN⟩,
  ⟨.type "tuple", none, .seq (dA [.str "name" 232, .str "path" 233]) 0, dN⟩,
  ⟨.ref 27, some 14, .plain, dN⟩,
  ⟨.type "list", none, .seq (dA []) 0, dN⟩,
  ⟨.type "dict", none, .dict (dB [dE P "name" 249 (.str "math" 248), dE P "loader" 250 (.ref 29), dE P "origin" 251 (.str "/nix/store/wj1f56qky4pmjc7l0r6b6l7whnnw7hp6-python3-3.13.15/lib/python3.13/lib-dynload/math.cpython-313-x86_64-linux-gnu.so" 187), dE P "loader_state" 252 (.none), dE P "submodule_search_locations" 253 (.none), dE P "_uninitialized_submodules" 254 (.ref 30), dE P "_set_fileattr" 255 (.bool true), dE P "_cached" 256 (.none), dE P "_initializing" 284 (.bool false)]) 9, dN⟩,
  ⟨.type "dict", none, .dict (dB [dE P "__module__" 268 (.str "_frozen_importlib" 258), dE P "__firstlineno__" 269 (.int 562 259), dE P "__doc__" 270 (.builtin "_frozen_importlib.ModuleSpec.__doc__:str#opaque"), dE P "__init__" 271 (.builtin "_frozen_importlib.ModuleSpec.__init__#opaque"), dE P "__repr__" 272 (.builtin "_frozen_importlib.ModuleSpec.__repr__#opaque"), dE P "__eq__" 273 (.builtin "_frozen_importlib.ModuleSpec.__eq__#opaque"), dE P "cached" 274 (.builtin "_frozen_importlib.ModuleSpec.cached#opaque"), dE P "parent" 275 (.builtin "_frozen_importlib.ModuleSpec.parent#opaque"), dE P "has_location" 276 (.builtin "_frozen_importlib.ModuleSpec.has_location#opaque"), dE P "__static_attributes__" 277 (.ref 34), dE P "__dict__" 279 (.ref 35), dE P "__weakref__" 281 (.ref 36), dE P "__hash__" 282 (.none)]) 13, dN⟩,
  ⟨.type "type", none, .cls ⟨"ModuleSpec", [.type "object"], [.ref 33, .type "object"], 32, "ModuleSpec", true, [], [], false, none, false⟩, dN⟩,
  ⟨.type "tuple", none, .seq (dA [.str "_cached" 260, .str "_set_fileattr" 261, .str "_uninitialized_submodules" 262, .str "loader" 263, .str "loader_state" 264, .str "name" 265, .str "origin" 266, .str "submodule_search_locations" 267]) 0, dN⟩,
  ⟨.type "getset_descriptor", none, .fields (dA [.str "__dict__" 278, .ref 33, .builtin "function.__dict__", .builtin "function.__dict__#set"]), dN⟩,
  ⟨.type "getset_descriptor", none, .fields (dA [.str "__weakref__" 280, .ref 33, .builtin "ExceptionGroup.__weakref__", .none]), dN⟩,
  ⟨.ref 33, some 31, .plain, dN⟩,
  ⟨.none, none, .seq (dA [.int 12 0, .str (sN [6, 288, 8, 95, 95, 110, 97, 109, 101, 95, 95, 6, 287, 4, 109, 97, 116, 104, 6, 289, 7, 95, 95, 100, 111, 99, 95, 95, 9, 23, 109, 97, 116, 104, 46, 95, 95, 100, 111, 99, 95, 95, 58, 115, 116, 114, 35, 111, 112, 97, 113, 117, 101, 6, 291, 11, 95, 95, 112, 97, 99, 107, 97, 103, 101, 95, 95, 6, 290, 0, 6, 292, 10, 95, 95, 108, 111, 97, 100, 101, 114, 95, 95, 4, 0, 0, 29, 6, 293, 8, 95, 95, 115, 112, 101, 99, 95, 95, 4, 0, 0, 37, 6, 294, 4, 97, 99, 111, 115, 9, 9, 109, 97, 116, 104, 46, 97, 99, 111, 115, 6, 295, 5, 97, 99, 111, 115, 104, 9, 10, 109, 97, 116, 104, 46, 97, 99, 111, 115, 104, 6, 296, 4, 97, 115, 105, 110, 9, 9, 109, 97, 116, 104, 46, 97, 115, 105, 110, 6, 297, 5, 97, 115, 105, 110, 104, 9, 10, 109, 97, 116, 104, 46, 97, 115, 105, 110, 104, 6, 298, 4, 97, 116, 97, 110, 9, 9, 109, 97, 116, 104, 46, 97, 116, 97, 110, 6, 299, 5, 97, 116, 97, 110, 50, 9, 10, 109, 97, 116, 104, 46, 97, 116, 97, 110, 50, 6, 300, 5, 97, 116, 97, 110, 104, 9, 10, 109, 97, 116, 104, 46, 97, 116, 97, 110, 104, 6, 301, 4, 99, 98, 114, 116, 9, 9, 109, 97, 116, 104, 46, 99, 98, 114, 116, 6, 302, 4, 99, 101, 105, 108, 9, 9, 109, 97, 116, 104, 46, 99, 101, 105, 108, 6, 303, 8, 99, 111, 112, 121, 115, 105, 103, 110, 9, 13, 109, 97, 116, 104, 46, 99, 111, 112, 121, 115, 105, 103, 110, 6, 304, 3, 99, 111, 115, 9, 8, 109, 97, 116, 104, 46, 99, 111, 115, 6, 305, 4, 99, 111, 115, 104, 9, 9, 109, 97, 116, 104, 46, 99, 111, 115, 104, 6, 306, 7, 100, 101, 103, 114, 101, 101, 115, 9, 12, 109, 97, 116, 104, 46, 100, 101, 103, 114, 101, 101, 115, 6, 307, 4, 100, 105, 115, 116, 9, 9, 109, 97, 116, 104, 46, 100, 105, 115, 116, 6, 308, 3, 101, 114, 102, 9, 8, 109, 97, 116, 104, 46, 101, 114, 102, 6, 309, 4, 101, 114, 102, 99, 9, 9, 109, 97, 116, 104, 46, 101, 114, 102, 99, 6, 310, 3, 101, 120, 112, 9, 8, 109, 97, 116, 104, 46, 101, 120, 112, 6, 311, 4, 101, 120, 112, 50, 9, 9, 109, 97, 116, 104, 46, 101, 120, 112, 50, 6, 312, 5, 101, 120, 112, 109, 49, 9, 10, 109, 97, 116, 104, 46, 101, 120, 112, 109, 49, 6, 313, 4, 102, 97, 98, 115, 9, 9, 109, 97, 116, 104, 46, 102, 97, 98, 115, 6, 314, 9, 102, 97, 99, 116, 111, 114, 105, 97, 108, 9, 14, 109, 97, 116, 104, 46, 102, 97, 99, 116, 111, 114, 105, 97, 108, 6, 315, 5, 102, 108, 111, 111, 114, 9, 10, 109, 97, 116, 104, 46, 102, 108, 111, 111, 114, 6, 316, 3, 102, 109, 97, 9, 8, 109, 97, 116, 104, 46, 102, 109, 97, 6, 317, 4, 102, 109, 111, 100, 9, 9, 109, 97, 116, 104, 46, 102, 109, 111, 100, 6, 318, 5, 102, 114, 101, 120, 112, 9, 10, 109, 97, 116, 104, 46, 102, 114, 101, 120, 112, 6, 319, 4, 102, 115, 117, 109, 9, 9, 109, 97, 116, 104, 46, 102, 115, 117, 109, 6, 320, 5, 103, 97, 109, 109, 97, 9, 10, 109, 97, 116, 104, 46, 103, 97, 109, 109, 97, 6, 321, 3, 103, 99, 100, 9, 8, 109, 97, 116, 104, 46, 103, 99, 100, 6, 322, 5, 104, 121, 112, 111, 116, 9, 10, 109, 97, 116, 104, 46, 104, 121, 112, 111, 116, 6, 323, 7, 105, 115, 99, 108, 111, 115, 101, 9, 12, 109, 97, 116, 104, 46, 105, 115, 99, 108, 111, 115, 101, 6, 324, 8, 105, 115, 102, 105, 110, 105, 116, 101, 9, 13, 109, 97, 116, 104, 46, 105, 115, 102, 105, 110, 105, 116, 101, 6, 325, 5, 105, 115, 105, 110, 102, 9, 10, 109, 97, 116, 104, 46, 105, 115, 105, 110, 102, 6, 326, 5, 105, 115, 110, 97, 110, 9, 10, 109, 97, 116, 104, 46, 105, 115, 110, 97, 110, 6, 327, 5, 105, 115, 113, 114, 116, 9, 10, 109, 97, 116, 104, 46, 105, 115, 113, 114, 116, 6, 328, 3, 108, 99, 109, 9, 8, 109, 97, 116, 104, 46, 108, 99, 109, 6, 329, 5, 108, 100, 101, 120, 112, 9, 10, 109, 97, 116, 104, 46, 108, 100, 101, 120, 112, 6, 330, 6, 108, 103, 97, 109, 109, 97, 9, 11, 109, 97, 116, 104, 46, 108, 103, 97, 109, 109, 97, 6, 331, 3, 108, 111, 103, 9, 8, 109, 97, 116, 104, 46, 108, 111, 103, 6, 332, 5, 108, 111, 103, 49, 112, 9, 10, 109, 97, 116, 104, 46, 108, 111, 103, 49, 112, 6, 333, 5, 108, 111, 103, 49, 48, 9, 10, 109, 97, 116, 104, 46, 108, 111, 103, 49, 48, 6, 334, 4, 108, 111, 103, 50, 9, 9, 109, 97, 116, 104, 46, 108, 111, 103, 50, 6, 335, 4, 109, 111, 100, 102, 9, 9, 109, 97, 116, 104, 46, 109, 111, 100, 102, 6, 336, 3, 112, 111, 119, 9, 8, 109, 97, 116, 104, 46, 112, 111, 119, 6, 337, 7, 114, 97, 100, 105, 97, 110, 115, 9, 12, 109, 97, 116, 104, 46, 114, 97, 100, 105, 97, 110, 115, 6, 338, 9, 114, 101, 109, 97, 105, 110, 100, 101, 114, 9, 14, 109, 97, 116, 104, 46, 114, 101, 109, 97, 105, 110, 100, 101, 114, 6, 339, 3, 115, 105, 110, 9, 8, 109, 97, 116, 104, 46, 115, 105, 110, 6, 340, 4, 115, 105, 110, 104, 9, 9, 109, 97, 116, 104, 46, 115, 105, 110, 104, 6, 341, 4, 115, 113, 114, 116, 9, 9, 109, 97, 116, 104, 46, 115, 113, 114, 116, 6, 342, 3, 116, 97, 110, 9, 8, 109, 97, 116, 104, 46, 116, 97, 110, 6, 343, 4, 116, 97, 110, 104, 9, 9, 109, 97, 116, 104, 46, 116, 97, 110, 104, 6, 344, 7, 115, 117, 109, 112, 114, 111, 100, 9, 12, 109, 97, 116, 104, 46, 115, 117, 109, 112, 114, 111, 100, 6, 345, 5, 116, 114, 117, 110, 99, 9, 10, 109, 97, 116, 104, 46, 116, 114, 117, 110, 99, 6, 346, 4, 112, 114, 111, 100, 9, 9, 109, 97, 116, 104, 46, 112, 114, 111, 100, 6, 347, 4, 112, 101, 114, 109, 9, 9, 109, 97, 116, 104, 46, 112, 101, 114, 109, 6, 348, 4, 99, 111, 109, 98, 9, 9, 109, 97, 116, 104, 46, 99, 111, 109, 98, 6, 349, 9, 110, 101, 120, 116, 97, 102, 116, 101, 114, 9, 14, 109, 97, 116, 104, 46, 110, 101, 120, 116, 97, 102, 116, 101, 114, 6, 350, 3, 117, 108, 112, 9, 8, 109, 97, 116, 104, 46, 117, 108, 112, 6, 351, 8, 95, 95, 102, 105, 108, 101, 95, 95, 6, 187, 123, 47, 110, 105, 120, 47, 115, 116, 111, 114, 101, 47, 119, 106, 49, 102, 53, 54, 113, 107, 121, 52, 112, 109, 106, 99, 55, 108, 48, 114, 54, 98, 54, 108, 55, 119, 104, 110, 110, 119, 55, 104, 112, 54, 45, 112, 121, 116, 104, 111, 110, 51, 45, 51, 46, 49, 51, 46, 49, 53, 47, 108, 105, 98, 47, 112, 121, 116, 104, 111, 110, 51, 46, 49, 51, 47, 108, 105, 98, 45, 100, 121, 110, 108, 111, 97, 100, 47, 109, 97, 116, 104, 46, 99, 112, 121, 116, 104, 111, 110, 45, 51, 49, 51, 45, 120, 56, 54, 95, 54, 52, 45, 108, 105, 110, 117, 120, 45, 103, 110, 117, 46, 115, 111, 6, 353, 2, 112, 105, 5, 352, 4614256656552045848, 6, 355, 1, 101, 5, 354, 4613303445314885481, 6, 357, 3, 116, 97, 117, 5, 356, 4618760256179416344, 6, 359, 3, 105, 110, 102, 5, 358, 9218868437227405312, 6, 361, 3, 110, 97, 110, 5, 360, 9221120237041090560]) 0, .bool true, .bool false, .str "math" 363]) 0, dN⟩]
def ob0 (P : Params) : List Obj := ob0_0 P
def tr0 (P : Params) : PySem.W.BT := insAll (ob0 P) .nil 0
def st0 (w : World) (os : OsState) : PySem.W.SharedT := ⟨tr0 w.params, 39, {}, Array.mk [], {}, 374, os⟩
def ob1_0 (P : Params) : List Obj := [
  ⟨.type "tuple", none, .seq (dA []) 0, dN⟩,
  ⟨.none, none, .fields (dA []), dN⟩,
  ⟨.type "code", none, .fields (dA [.str "<module>" 375, .str "<module>" 376, .str "/claim/cut.py" 377, .int 1 0, .int 0 0, .int 0 0, .int 0 0, .int 0 0, .ref 39, .bool false, .int 374 0, .ref 40, .none, .none, .none, .none, .int 378 0, .int 1 0, .str "/claim/cut.py" 379]), dN⟩,
  ⟨.type "frame", none, .plain, dS [some (.ref 41), some (.ref 3), some (.ref 3), none, some (.str "__main__" 164), none, some (.ref 0)]⟩]
def ob1 (P : Params) : List Obj := ob1_0 P
def ch1 (P : Params) : List (Nat × Obj) := [
  ]
def tr1 (P : Params) : PySem.W.BT := setAll (ch1 P) (insAll (ob1 P) (tr0 P) 39)
def st1 (w : World) (os : OsState) : PySem.W.SharedT := ⟨tr1 w.params, 43, {}, Array.mk [], {}, 380, os⟩
def ob2_0 (P : Params) : List Obj := [
  ⟨.type "tuple", none, .seq (dA [.type "ValueError"]) 0, dN⟩,
  ⟨.type "builtin_function_or_method", none, .fields (dA [.builtin "type.__prepare__", .type "type"]), dN⟩,
  ⟨.type "dict", none, .dict (dB [dE P "__module__" 389 (.str "guestseats.errors" 380), dE P "__qualname__" 391 (.str "SeatError" 390), dE P "__firstlineno__" 393 (.int 3 392), dE P "__static_attributes__" 394 (.ref 50)]) 4, dN⟩,
  ⟨.type "tuple", none, .seq (dA []) 0, dN⟩,
  ⟨.none, none, .fields (dA []), dN⟩,
  ⟨.type "code", none, .fields (dA [.str "SeatError" 384, .str "SeatError" 385, .str "/claim/cut.py" 386, .int 3 0, .int 0 0, .int 0 0, .int 0 0, .int 0 0, .ref 46, .bool false, .int 374 0, .ref 47, .none, .none, .none, .none, .int 387 0, .int 3 0, .str "/claim/cut.py" 388]), dN⟩,
  ⟨.type "frame", none, .plain, dS [some (.ref 48), some (.ref 3), some (.ref 45), none, some (.str "guestseats.errors" 380), none, some (.ref 0)]⟩,
  ⟨.type "tuple", none, .seq (dA []) 0, dN⟩,
  ⟨.type "dict", none, .dict (dB [dE P "__module__" 389 (.str "guestseats.errors" 380), dE P "__firstlineno__" 393 (.int 3 392), dE P "__static_attributes__" 394 (.ref 50), dE P "__weakref__" 396 (.ref 53), dE P "__doc__" 397 (.none)]) 3, dN⟩,
  ⟨.type "type", none, .cls ⟨"SeatError", [.type "ValueError"], [.ref 52, .type "ValueError", .type "Exception", .type "BaseException", .type "object"], 51, "SeatError", true, [], [.ref 72, .ref 91, .ref 110, .ref 129, .ref 148], false, none, false⟩, dS [some (.ref 43), none, some (.str "SeatError" 382), some (.str "SeatError" 390), some (.builtin "ValueError.__new__"), some (.bool true)]⟩,
  ⟨.type "getset_descriptor", none, .fields (dA [.str "__weakref__" 395, .ref 52, .builtin "ExceptionGroup.__weakref__", .none]), dN⟩,
  ⟨.type "super", none, .fields (dA [.ref 52, .ref 52, .ref 52]), dN⟩,
  ⟨.type "builtin_function_or_method", none, .fields (dA [.builtin "object.__init_subclass__", .ref 52]), dN⟩,
  ⟨.type "tuple", none, .seq (dA [.ref 52]) 0, dN⟩,
  ⟨.type "builtin_function_or_method", none, .fields (dA [.builtin "type.__prepare__", .type "type"]), dN⟩,
  ⟨.type "dict", none, .dict (dB [dE P "__module__" 407 (.str "guestseats.errors" 380), dE P "__qualname__" 409 (.str "InvalidStrength" 408), dE P "__firstlineno__" 411 (.int 5 410), dE P "__init__" 419 (.ref 69), dE P "__static_attributes__" 421 (.ref 70)]) 5, dN⟩,
  ⟨.type "tuple", none, .seq (dA []) 0, dN⟩,
  ⟨.none, none, .fields (dA [.int 7 0, .int 4 0, .ref 68]), dN⟩,
  ⟨.type "code", none, .fields (dA [.str "InvalidStrength" 402, .str "InvalidStrength" 403, .str "/claim/cut.py" 404, .int 5 0, .int 0 0, .int 0 0, .int 0 0, .int 0 0, .ref 59, .bool false, .int 374 0, .ref 60, .none, .none, .none, .none, .int 405 0, .int 5 0, .str "/claim/cut.py" 406]), dN⟩,
  ⟨.type "frame", none, .plain, dS [some (.ref 61), some (.ref 3), some (.ref 58), none, some (.str "guestseats.errors" 380), none, some (.ref 0)]⟩,
  ⟨.type "tuple", none, .seq (dA []) 0, dN⟩,
  ⟨.none, none, .fields (dA []), dN⟩,
  ⟨.type "tuple", none, .seq (dA [.str "self" 415, .str "given" 416]) 0, dN⟩,
  ⟨.type "tuple", none, .seq (dA []) 0, dN⟩,
  ⟨.none, none, .func (dF "__init__" "InvalidStrength.__init__" (inClass (topS 3) 0) 0 [] (.none) (.none) (.none) (.none) (none) (.none) (.none) 0), dN⟩,
  ⟨.type "code", none, .fields (dA [.str "__init__" 412, .str "InvalidStrength.__init__" 413, .str "/claim/cut.py" 414, .int 7 0, .int 2 0, .int 0 0, .int 0 0, .int 3 0, .ref 63, .bool true, .int 374 0, .ref 64, .none, .ref 65, .ref 66, .ref 67, .int 417 0, .int 7 0, .str "/claim/cut.py" 418]), dN⟩,
  ⟨.type "function", none, .func (dF "__init__" "InvalidStrength.__init__" (inClass (topS 3) 0) 3 [] (.none) (.none) (.none) (.str "guestseats.errors" 380) (none) (.ref 68) (.none) 0), dN⟩,
  ⟨.type "tuple", none, .seq (dA [.str "given" 420]) 0, dN⟩,
  ⟨.type "dict", none, .dict (dB [dE P "__module__" 407 (.str "guestseats.errors" 380), dE P "__firstlineno__" 411 (.int 5 410), dE P "__init__" 419 (.ref 69), dE P "__static_attributes__" 421 (.ref 70), dE P "__doc__" 422 (.none)]) 2, dN⟩,
  ⟨.type "type", none, .cls ⟨"InvalidStrength", [.ref 52], [.ref 72, .ref 52, .type "ValueError", .type "Exception", .type "BaseException", .type "object"], 71, "InvalidStrength", true, [], [], false, none, false⟩, dS [some (.ref 56), none, some (.str "InvalidStrength" 400), some (.str "InvalidStrength" 408), some (.builtin "ValueError.__new__"), some (.bool true)]⟩,
  ⟨.type "super", none, .fields (dA [.ref 72, .ref 72, .ref 72]), dN⟩,
  ⟨.type "builtin_function_or_method", none, .fields (dA [.builtin "object.__init_subclass__", .ref 72]), dN⟩,
  ⟨.type "tuple", none, .seq (dA [.ref 52]) 0, dN⟩,
  ⟨.type "builtin_function_or_method", none, .fields (dA [.builtin "type.__prepare__", .type "type"]), dN⟩,
  ⟨.type "dict", none, .dict (dB [dE P "__module__" 432 (.str "guestseats.errors" 380), dE P "__qualname__" 434 (.str "InvalidCarrier" 433), dE P "__firstlineno__" 436 (.int 9 435), dE P "__init__" 444 (.ref 88), dE P "__static_attributes__" 446 (.ref 89)]) 5, dN⟩,
  ⟨.type "tuple", none, .seq (dA []) 0, dN⟩,
  ⟨.none, none, .fields (dA [.int 11 0, .int 4 0, .ref 87]), dN⟩,
  ⟨.type "code", none, .fields (dA [.str "InvalidCarrier" 427, .str "InvalidCarrier" 428, .str "/claim/cut.py" 429, .int 9 0, .int 0 0, .int 0 0, .int 0 0, .int 0 0, .ref 78, .bool false, .int 374 0, .ref 79, .none, .none, .none, .none, .int 430 0, .int 9 0, .str "/claim/cut.py" 431]), dN⟩,
  ⟨.type "frame", none, .plain, dS [some (.ref 80), some (.ref 3), some (.ref 77), none, some (.str "guestseats.errors" 380), none, some (.ref 0)]⟩,
  ⟨.type "tuple", none, .seq (dA []) 0, dN⟩]
def ob2_1 (P : Params) : List Obj := [
  ⟨.none, none, .fields (dA []), dN⟩,
  ⟨.type "tuple", none, .seq (dA [.str "self" 440, .str "given" 441]) 0, dN⟩,
  ⟨.type "tuple", none, .seq (dA []) 0, dN⟩,
  ⟨.none, none, .func (dF "__init__" "InvalidCarrier.__init__" (inClass (topS 4) 0) 0 [] (.none) (.none) (.none) (.none) (none) (.none) (.none) 0), dN⟩,
  ⟨.type "code", none, .fields (dA [.str "__init__" 437, .str "InvalidCarrier.__init__" 438, .str "/claim/cut.py" 439, .int 11 0, .int 2 0, .int 0 0, .int 0 0, .int 3 0, .ref 82, .bool true, .int 374 0, .ref 83, .none, .ref 84, .ref 85, .ref 86, .int 442 0, .int 11 0, .str "/claim/cut.py" 443]), dN⟩,
  ⟨.type "function", none, .func (dF "__init__" "InvalidCarrier.__init__" (inClass (topS 4) 0) 3 [] (.none) (.none) (.none) (.str "guestseats.errors" 380) (none) (.ref 87) (.none) 0), dN⟩,
  ⟨.type "tuple", none, .seq (dA [.str "given" 445]) 0, dN⟩,
  ⟨.type "dict", none, .dict (dB [dE P "__module__" 432 (.str "guestseats.errors" 380), dE P "__firstlineno__" 436 (.int 9 435), dE P "__init__" 444 (.ref 88), dE P "__static_attributes__" 446 (.ref 89), dE P "__doc__" 447 (.none)]) 2, dN⟩,
  ⟨.type "type", none, .cls ⟨"InvalidCarrier", [.ref 52], [.ref 91, .ref 52, .type "ValueError", .type "Exception", .type "BaseException", .type "object"], 90, "InvalidCarrier", true, [], [], false, none, false⟩, dS [some (.ref 75), none, some (.str "InvalidCarrier" 425), some (.str "InvalidCarrier" 433), some (.builtin "ValueError.__new__"), some (.bool true)]⟩,
  ⟨.type "super", none, .fields (dA [.ref 91, .ref 91, .ref 91]), dN⟩,
  ⟨.type "builtin_function_or_method", none, .fields (dA [.builtin "object.__init_subclass__", .ref 91]), dN⟩,
  ⟨.type "tuple", none, .seq (dA [.ref 52]) 0, dN⟩,
  ⟨.type "builtin_function_or_method", none, .fields (dA [.builtin "type.__prepare__", .type "type"]), dN⟩,
  ⟨.type "dict", none, .dict (dB [dE P "__module__" 457 (.str "guestseats.errors" 380), dE P "__qualname__" 459 (.str "InvalidNumber" 458), dE P "__firstlineno__" 461 (.int 13 460), dE P "__init__" 469 (.ref 107), dE P "__static_attributes__" 471 (.ref 108)]) 5, dN⟩,
  ⟨.type "tuple", none, .seq (dA []) 0, dN⟩,
  ⟨.none, none, .fields (dA [.int 15 0, .int 4 0, .ref 106]), dN⟩,
  ⟨.type "code", none, .fields (dA [.str "InvalidNumber" 452, .str "InvalidNumber" 453, .str "/claim/cut.py" 454, .int 13 0, .int 0 0, .int 0 0, .int 0 0, .int 0 0, .ref 97, .bool false, .int 374 0, .ref 98, .none, .none, .none, .none, .int 455 0, .int 13 0, .str "/claim/cut.py" 456]), dN⟩,
  ⟨.type "frame", none, .plain, dS [some (.ref 99), some (.ref 3), some (.ref 96), none, some (.str "guestseats.errors" 380), none, some (.ref 0)]⟩,
  ⟨.type "tuple", none, .seq (dA []) 0, dN⟩,
  ⟨.none, none, .fields (dA []), dN⟩,
  ⟨.type "tuple", none, .seq (dA [.str "self" 465, .str "given" 466]) 0, dN⟩,
  ⟨.type "tuple", none, .seq (dA []) 0, dN⟩,
  ⟨.none, none, .func (dF "__init__" "InvalidNumber.__init__" (inClass (topS 5) 0) 0 [] (.none) (.none) (.none) (.none) (none) (.none) (.none) 0), dN⟩,
  ⟨.type "code", none, .fields (dA [.str "__init__" 462, .str "InvalidNumber.__init__" 463, .str "/claim/cut.py" 464, .int 15 0, .int 2 0, .int 0 0, .int 0 0, .int 3 0, .ref 101, .bool true, .int 374 0, .ref 102, .none, .ref 103, .ref 104, .ref 105, .int 467 0, .int 15 0, .str "/claim/cut.py" 468]), dN⟩,
  ⟨.type "function", none, .func (dF "__init__" "InvalidNumber.__init__" (inClass (topS 5) 0) 3 [] (.none) (.none) (.none) (.str "guestseats.errors" 380) (none) (.ref 106) (.none) 0), dN⟩,
  ⟨.type "tuple", none, .seq (dA [.str "given" 470]) 0, dN⟩,
  ⟨.type "dict", none, .dict (dB [dE P "__module__" 457 (.str "guestseats.errors" 380), dE P "__firstlineno__" 461 (.int 13 460), dE P "__init__" 469 (.ref 107), dE P "__static_attributes__" 471 (.ref 108), dE P "__doc__" 472 (.none)]) 2, dN⟩,
  ⟨.type "type", none, .cls ⟨"InvalidNumber", [.ref 52], [.ref 110, .ref 52, .type "ValueError", .type "Exception", .type "BaseException", .type "object"], 109, "InvalidNumber", true, [], [], false, none, false⟩, dS [some (.ref 94), none, some (.str "InvalidNumber" 450), some (.str "InvalidNumber" 458), some (.builtin "ValueError.__new__"), some (.bool true)]⟩,
  ⟨.type "super", none, .fields (dA [.ref 110, .ref 110, .ref 110]), dN⟩,
  ⟨.type "builtin_function_or_method", none, .fields (dA [.builtin "object.__init_subclass__", .ref 110]), dN⟩,
  ⟨.type "tuple", none, .seq (dA [.ref 52]) 0, dN⟩,
  ⟨.type "builtin_function_or_method", none, .fields (dA [.builtin "type.__prepare__", .type "type"]), dN⟩,
  ⟨.type "dict", none, .dict (dB [dE P "__module__" 482 (.str "guestseats.errors" 380), dE P "__qualname__" 484 (.str "InvalidBoard" 483), dE P "__firstlineno__" 486 (.int 17 485), dE P "__init__" 494 (.ref 126), dE P "__static_attributes__" 496 (.ref 127)]) 5, dN⟩,
  ⟨.type "tuple", none, .seq (dA []) 0, dN⟩,
  ⟨.none, none, .fields (dA [.int 19 0, .int 4 0, .ref 125]), dN⟩,
  ⟨.type "code", none, .fields (dA [.str "InvalidBoard" 477, .str "InvalidBoard" 478, .str "/claim/cut.py" 479, .int 17 0, .int 0 0, .int 0 0, .int 0 0, .int 0 0, .ref 116, .bool false, .int 374 0, .ref 117, .none, .none, .none, .none, .int 480 0, .int 17 0, .str "/claim/cut.py" 481]), dN⟩,
  ⟨.type "frame", none, .plain, dS [some (.ref 118), some (.ref 3), some (.ref 115), none, some (.str "guestseats.errors" 380), none, some (.ref 0)]⟩,
  ⟨.type "tuple", none, .seq (dA []) 0, dN⟩,
  ⟨.none, none, .fields (dA []), dN⟩,
  ⟨.type "tuple", none, .seq (dA [.str "self" 490, .str "given" 491]) 0, dN⟩]
def ob2_2 (P : Params) : List Obj := [
  ⟨.type "tuple", none, .seq (dA []) 0, dN⟩,
  ⟨.none, none, .func (dF "__init__" "InvalidBoard.__init__" (inClass (topS 6) 0) 0 [] (.none) (.none) (.none) (.none) (none) (.none) (.none) 0), dN⟩,
  ⟨.type "code", none, .fields (dA [.str "__init__" 487, .str "InvalidBoard.__init__" 488, .str "/claim/cut.py" 489, .int 19 0, .int 2 0, .int 0 0, .int 0 0, .int 3 0, .ref 120, .bool true, .int 374 0, .ref 121, .none, .ref 122, .ref 123, .ref 124, .int 492 0, .int 19 0, .str "/claim/cut.py" 493]), dN⟩,
  ⟨.type "function", none, .func (dF "__init__" "InvalidBoard.__init__" (inClass (topS 6) 0) 3 [] (.none) (.none) (.none) (.str "guestseats.errors" 380) (none) (.ref 125) (.none) 0), dN⟩,
  ⟨.type "tuple", none, .seq (dA [.str "given" 495]) 0, dN⟩,
  ⟨.type "dict", none, .dict (dB [dE P "__module__" 482 (.str "guestseats.errors" 380), dE P "__firstlineno__" 486 (.int 17 485), dE P "__init__" 494 (.ref 126), dE P "__static_attributes__" 496 (.ref 127), dE P "__doc__" 497 (.none)]) 2, dN⟩,
  ⟨.type "type", none, .cls ⟨"InvalidBoard", [.ref 52], [.ref 129, .ref 52, .type "ValueError", .type "Exception", .type "BaseException", .type "object"], 128, "InvalidBoard", true, [], [], false, none, false⟩, dS [some (.ref 113), none, some (.str "InvalidBoard" 475), some (.str "InvalidBoard" 483), some (.builtin "ValueError.__new__"), some (.bool true)]⟩,
  ⟨.type "super", none, .fields (dA [.ref 129, .ref 129, .ref 129]), dN⟩,
  ⟨.type "builtin_function_or_method", none, .fields (dA [.builtin "object.__init_subclass__", .ref 129]), dN⟩,
  ⟨.type "tuple", none, .seq (dA [.ref 52]) 0, dN⟩,
  ⟨.type "builtin_function_or_method", none, .fields (dA [.builtin "type.__prepare__", .type "type"]), dN⟩,
  ⟨.type "dict", none, .dict (dB [dE P "__module__" 507 (.str "guestseats.errors" 380), dE P "__qualname__" 509 (.str "InvalidLooks" 508), dE P "__firstlineno__" 511 (.int 21 510), dE P "__init__" 519 (.ref 145), dE P "__static_attributes__" 521 (.ref 146)]) 5, dN⟩,
  ⟨.type "tuple", none, .seq (dA []) 0, dN⟩,
  ⟨.none, none, .fields (dA [.int 23 0, .int 4 0, .ref 144]), dN⟩,
  ⟨.type "code", none, .fields (dA [.str "InvalidLooks" 502, .str "InvalidLooks" 503, .str "/claim/cut.py" 504, .int 21 0, .int 0 0, .int 0 0, .int 0 0, .int 0 0, .ref 135, .bool false, .int 374 0, .ref 136, .none, .none, .none, .none, .int 505 0, .int 21 0, .str "/claim/cut.py" 506]), dN⟩,
  ⟨.type "frame", none, .plain, dS [some (.ref 137), some (.ref 3), some (.ref 134), none, some (.str "guestseats.errors" 380), none, some (.ref 0)]⟩,
  ⟨.type "tuple", none, .seq (dA []) 0, dN⟩,
  ⟨.none, none, .fields (dA []), dN⟩,
  ⟨.type "tuple", none, .seq (dA [.str "self" 515, .str "index" 516]) 0, dN⟩,
  ⟨.type "tuple", none, .seq (dA []) 0, dN⟩,
  ⟨.none, none, .func (dF "__init__" "InvalidLooks.__init__" (inClass (topS 7) 0) 0 [] (.none) (.none) (.none) (.none) (none) (.none) (.none) 0), dN⟩,
  ⟨.type "code", none, .fields (dA [.str "__init__" 512, .str "InvalidLooks.__init__" 513, .str "/claim/cut.py" 514, .int 23 0, .int 2 0, .int 0 0, .int 0 0, .int 3 0, .ref 139, .bool true, .int 374 0, .ref 140, .none, .ref 141, .ref 142, .ref 143, .int 517 0, .int 23 0, .str "/claim/cut.py" 518]), dN⟩,
  ⟨.type "function", none, .func (dF "__init__" "InvalidLooks.__init__" (inClass (topS 7) 0) 3 [] (.none) (.none) (.none) (.str "guestseats.errors" 380) (none) (.ref 144) (.none) 0), dN⟩,
  ⟨.type "tuple", none, .seq (dA [.str "index" 520]) 0, dN⟩,
  ⟨.type "dict", none, .dict (dB [dE P "__module__" 507 (.str "guestseats.errors" 380), dE P "__firstlineno__" 511 (.int 21 510), dE P "__init__" 519 (.ref 145), dE P "__static_attributes__" 521 (.ref 146), dE P "__doc__" 522 (.none)]) 2, dN⟩,
  ⟨.type "type", none, .cls ⟨"InvalidLooks", [.ref 52], [.ref 148, .ref 52, .type "ValueError", .type "Exception", .type "BaseException", .type "object"], 147, "InvalidLooks", true, [], [], false, none, false⟩, dS [some (.ref 132), none, some (.str "InvalidLooks" 500), some (.str "InvalidLooks" 508), some (.builtin "ValueError.__new__"), some (.bool true)]⟩,
  ⟨.type "super", none, .fields (dA [.ref 148, .ref 148, .ref 148]), dN⟩,
  ⟨.type "builtin_function_or_method", none, .fields (dA [.builtin "object.__init_subclass__", .ref 148]), dN⟩]
def ob2 (P : Params) : List Obj := ob2_0 P ++ ob2_1 P ++ ob2_2 P
def ch2 (P : Params) : List (Nat × Obj) := [
  (3, ⟨.type "dict", none, .dict (dB [dE P "__name__" 165 (.str "guestseats.errors" 380), dE P "__doc__" 166 (.none), dE P "__package__" 167 (.none), dE P "__loader__" 168 (.builtin "__main__.__loader__#opaque"), dE P "__spec__" 169 (.none), dE P "__annotations__" 170 (.ref 6), dE P "__builtins__" 171 (.ref 4), dE P "__file__" 173 (.str "/claim/cut.py" 172), dE P "__cached__" 174 (.none), dE P "gcd" 370 (.builtin "math.gcd"), dE P "lcm" 373 (.builtin "math.lcm"), dE P "SeatError" 399 (.ref 52), dE P "InvalidStrength" 424 (.ref 72), dE P "InvalidCarrier" 449 (.ref 91), dE P "InvalidNumber" 474 (.ref 110), dE P "InvalidBoard" 499 (.ref 129), dE P "InvalidLooks" 524 (.ref 148)]) 17, dN⟩),
  (40, ⟨.none, none, .fields (dA [.int 3 0, .int 0 0, .ref 48, .int 5 0, .int 0 0, .ref 61, .int 9 0, .int 0 0, .ref 80, .int 13 0, .int 0 0, .ref 99, .int 17 0, .int 0 0, .ref 118, .int 21 0, .int 0 0, .ref 137]), dN⟩)]
def tr2 (P : Params) : PySem.W.BT := setAll (ch2 P) (insAll (ob2 P) (tr1 P) 43)
def st2 (w : World) (os : OsState) : PySem.W.SharedT := ⟨tr2 w.params, 151, {}, Array.mk [], {}, 525, os⟩
def ob3_0 (P : Params) : List Obj := [
  ⟨.type "tuple", none, .seq (dA []) 0, dN⟩,
  ⟨.none, none, .fields (dA []), dN⟩,
  ⟨.type "tuple", none, .seq (dA [.str "value" 530]) 0, dN⟩,
  ⟨.type "tuple", none, .seq (dA []) 0, dN⟩,
  ⟨.none, none, .func (dF "is_whole" "is_whole" (topS 9) 0 [] (.none) (.none) (.none) (.none) (none) (.none) (.none) 0), dN⟩,
  ⟨.type "code", none, .fields (dA [.str "is_whole" 527, .str "is_whole" 528, .str "/claim/cut.py" 529, .int 26 0, .int 1 0, .int 0 0, .int 0 0, .int 3 0, .ref 151, .bool true, .int 374 0, .ref 152, .none, .ref 153, .ref 154, .ref 155, .int 531 0, .int 26 0, .str "/claim/cut.py" 532]), dN⟩,
  ⟨.type "function", none, .func (dF "is_whole" "is_whole" (topS 9) 3 [] (.none) (.none) (.none) (.str "guestseats.values" 525) (none) (.ref 156) (.none) 0), dN⟩,
  ⟨.type "tuple", none, .seq (dA []) 0, dN⟩,
  ⟨.none, none, .fields (dA []), dN⟩,
  ⟨.type "tuple", none, .seq (dA [.str "value" 537, .str "low" 538, .str "high" 539]) 0, dN⟩,
  ⟨.type "tuple", none, .seq (dA []) 0, dN⟩,
  ⟨.none, none, .func (dF "is_between" "is_between" (topS 10) 0 [] (.none) (.none) (.none) (.none) (none) (.none) (.none) 0), dN⟩,
  ⟨.type "code", none, .fields (dA [.str "is_between" 534, .str "is_between" 535, .str "/claim/cut.py" 536, .int 28 0, .int 3 0, .int 0 0, .int 0 0, .int 3 0, .ref 158, .bool true, .int 374 0, .ref 159, .none, .ref 160, .ref 161, .ref 162, .int 540 0, .int 28 0, .str "/claim/cut.py" 541]), dN⟩,
  ⟨.type "function", none, .func (dF "is_between" "is_between" (topS 10) 3 [] (.none) (.none) (.none) (.str "guestseats.values" 525) (none) (.ref 163) (.none) 0), dN⟩,
  ⟨.type "tuple", none, .seq (dA []) 0, dN⟩,
  ⟨.none, none, .fields (dA []), dN⟩,
  ⟨.none, none, .func (dF "are_wholes" "are_wholes" (topS 11) 0 [] (.none) (.none) (.none) (.none) (none) (.none) (.none) 0), dN⟩,
  ⟨.type "code", none, .fields (dA [.str "are_wholes" 543, .str "are_wholes" 544, .str "/claim/cut.py" 545, .int 30 0, .int 2 0, .int 0 0, .int 0 0, .int 3 0, .ref 165, .bool true, .int 374 0, .ref 166, .none, .none, .none, .ref 167, .int 546 0, .int 30 0, .str "/claim/cut.py" 547]), dN⟩,
  ⟨.type "function", none, .func (dF "are_wholes" "are_wholes" (topS 11) 3 [] (.none) (.none) (.none) (.str "guestseats.values" 525) (none) (.ref 168) (.none) 0), dN⟩,
  ⟨.type "tuple", none, .seq (dA []) 0, dN⟩,
  ⟨.none, none, .fields (dA []), dN⟩,
  ⟨.type "tuple", none, .seq (dA [.str "numbers" 552, .str "found" 553, .str "number" 554]) 0, dN⟩,
  ⟨.type "tuple", none, .seq (dA []) 0, dN⟩,
  ⟨.none, none, .func (dF "divisor_of" "divisor_of" (topS 12) 0 [] (.none) (.none) (.none) (.none) (none) (.none) (.none) 0), dN⟩,
  ⟨.type "code", none, .fields (dA [.str "divisor_of" 549, .str "divisor_of" 550, .str "/claim/cut.py" 551, .int 32 0, .int 1 0, .int 0 0, .int 0 0, .int 3 0, .ref 170, .bool true, .int 374 0, .ref 171, .none, .ref 172, .ref 173, .ref 174, .int 555 0, .int 32 0, .str "/claim/cut.py" 556]), dN⟩,
  ⟨.type "function", none, .func (dF "divisor_of" "divisor_of" (topS 12) 3 [] (.none) (.none) (.none) (.str "guestseats.values" 525) (none) (.ref 175) (.none) 0), dN⟩,
  ⟨.type "tuple", none, .seq (dA []) 0, dN⟩,
  ⟨.none, none, .fields (dA []), dN⟩,
  ⟨.none, none, .func (dF "lowest" "lowest" (topS 13) 0 [] (.none) (.none) (.none) (.none) (none) (.none) (.none) 0), dN⟩,
  ⟨.type "code", none, .fields (dA [.str "lowest" 558, .str "lowest" 559, .str "/claim/cut.py" 560, .int 37 0, .int 1 0, .int 0 0, .int 0 0, .int 3 0, .ref 177, .bool true, .int 374 0, .ref 178, .none, .none, .none, .ref 179, .int 561 0, .int 37 0, .str "/claim/cut.py" 562]), dN⟩,
  ⟨.type "function", none, .func (dF "lowest" "lowest" (topS 13) 3 [] (.none) (.none) (.none) (.str "guestseats.values" 525) (none) (.ref 180) (.none) 0), dN⟩,
  ⟨.type "tuple", none, .seq (dA []) 0, dN⟩,
  ⟨.none, none, .fields (dA []), dN⟩,
  ⟨.type "tuple", none, .seq (dA [.str "number" 567]) 0, dN⟩,
  ⟨.type "tuple", none, .seq (dA []) 0, dN⟩,
  ⟨.none, none, .func (dF "sign_of" "sign_of" (topS 14) 0 [] (.none) (.none) (.none) (.none) (none) (.none) (.none) 0), dN⟩,
  ⟨.type "code", none, .fields (dA [.str "sign_of" 564, .str "sign_of" 565, .str "/claim/cut.py" 566, .int 40 0, .int 1 0, .int 0 0, .int 0 0, .int 3 0, .ref 182, .bool true, .int 374 0, .ref 183, .none, .ref 184, .ref 185, .ref 186, .int 568 0, .int 40 0, .str "/claim/cut.py" 569]), dN⟩,
  ⟨.type "function", none, .func (dF "sign_of" "sign_of" (topS 14) 3 [] (.none) (.none) (.none) (.str "guestseats.values" 525) (none) (.ref 187) (.none) 0), dN⟩,
  ⟨.type "tuple", none, .seq (dA []) 0, dN⟩,
  ⟨.none, none, .fields (dA []), dN⟩]
def ob3_1 (P : Params) : List Obj := [
  ⟨.type "tuple", none, .seq (dA [.str "number" 574, .str "found" 575]) 0, dN⟩,
  ⟨.type "tuple", none, .seq (dA []) 0, dN⟩,
  ⟨.none, none, .func (dF "bits_in" "bits_in" (topS 15) 0 [] (.none) (.none) (.none) (.none) (none) (.none) (.none) 0), dN⟩,
  ⟨.type "code", none, .fields (dA [.str "bits_in" 571, .str "bits_in" 572, .str "/claim/cut.py" 573, .int 42 0, .int 1 0, .int 0 0, .int 0 0, .int 3 0, .ref 189, .bool true, .int 374 0, .ref 190, .none, .ref 191, .ref 192, .ref 193, .int 576 0, .int 42 0, .str "/claim/cut.py" 577]), dN⟩,
  ⟨.type "function", none, .func (dF "bits_in" "bits_in" (topS 15) 3 [] (.none) (.none) (.none) (.str "guestseats.values" 525) (none) (.ref 194) (.none) 0), dN⟩,
  ⟨.type "tuple", none, .seq (dA [.int 0 581, .int 1 582]) 0, dN⟩,
  ⟨.type "tuple", none, .seq (dA [.int 1 584, .int 1 585]) 0, dN⟩,
  ⟨.type "tuple", none, .seq (dA []) 0, dN⟩,
  ⟨.none, none, .fields (dA []), dN⟩,
  ⟨.type "tuple", none, .seq (dA [.str "value" 590]) 0, dN⟩,
  ⟨.type "tuple", none, .seq (dA []) 0, dN⟩,
  ⟨.none, none, .func (dF "is_ratio" "is_ratio" (topS 19) 0 [] (.none) (.none) (.none) (.none) (none) (.none) (.none) 0), dN⟩,
  ⟨.type "code", none, .fields (dA [.str "is_ratio" 587, .str "is_ratio" 588, .str "/claim/cut.py" 589, .int 50 0, .int 1 0, .int 0 0, .int 0 0, .int 3 0, .ref 198, .bool true, .int 374 0, .ref 199, .none, .ref 200, .ref 201, .ref 202, .int 591 0, .int 50 0, .str "/claim/cut.py" 592]), dN⟩,
  ⟨.type "function", none, .func (dF "is_ratio" "is_ratio" (topS 19) 3 [] (.none) (.none) (.none) (.str "guestseats.ratios" 579) (none) (.ref 203) (.none) 0), dN⟩,
  ⟨.type "tuple", none, .seq (dA []) 0, dN⟩,
  ⟨.none, none, .fields (dA []), dN⟩,
  ⟨.type "tuple", none, .seq (dA [.str "top" 597, .str "low" 598]) 0, dN⟩,
  ⟨.type "tuple", none, .seq (dA []) 0, dN⟩,
  ⟨.none, none, .func (dF "ratio" "ratio" (topS 20) 0 [] (.none) (.none) (.none) (.none) (none) (.none) (.none) 0), dN⟩,
  ⟨.type "code", none, .fields (dA [.str "ratio" 594, .str "ratio" 595, .str "/claim/cut.py" 596, .int 52 0, .int 2 0, .int 0 0, .int 0 0, .int 3 0, .ref 205, .bool true, .int 374 0, .ref 206, .none, .ref 207, .ref 208, .ref 209, .int 599 0, .int 52 0, .str "/claim/cut.py" 600]), dN⟩,
  ⟨.type "function", none, .func (dF "ratio" "ratio" (topS 20) 3 [] (.none) (.none) (.none) (.str "guestseats.ratios" 579) (none) (.ref 210) (.none) 0), dN⟩,
  ⟨.type "tuple", none, .seq (dA []) 0, dN⟩,
  ⟨.none, none, .fields (dA []), dN⟩,
  ⟨.type "tuple", none, .seq (dA [.str "one" 605, .str "two" 606]) 0, dN⟩,
  ⟨.type "tuple", none, .seq (dA []) 0, dN⟩,
  ⟨.none, none, .func (dF "plus" "plus" (topS 21) 0 [] (.none) (.none) (.none) (.none) (none) (.none) (.none) 0), dN⟩,
  ⟨.type "code", none, .fields (dA [.str "plus" 602, .str "plus" 603, .str "/claim/cut.py" 604, .int 54 0, .int 2 0, .int 0 0, .int 0 0, .int 3 0, .ref 212, .bool true, .int 374 0, .ref 213, .none, .ref 214, .ref 215, .ref 216, .int 607 0, .int 54 0, .str "/claim/cut.py" 608]), dN⟩,
  ⟨.type "function", none, .func (dF "plus" "plus" (topS 21) 3 [] (.none) (.none) (.none) (.str "guestseats.ratios" 579) (none) (.ref 217) (.none) 0), dN⟩,
  ⟨.type "tuple", none, .seq (dA []) 0, dN⟩,
  ⟨.none, none, .fields (dA []), dN⟩,
  ⟨.type "tuple", none, .seq (dA [.str "one" 613, .str "two" 614]) 0, dN⟩,
  ⟨.type "tuple", none, .seq (dA []) 0, dN⟩,
  ⟨.none, none, .func (dF "minus" "minus" (topS 22) 0 [] (.none) (.none) (.none) (.none) (none) (.none) (.none) 0), dN⟩,
  ⟨.type "code", none, .fields (dA [.str "minus" 610, .str "minus" 611, .str "/claim/cut.py" 612, .int 56 0, .int 2 0, .int 0 0, .int 0 0, .int 3 0, .ref 219, .bool true, .int 374 0, .ref 220, .none, .ref 221, .ref 222, .ref 223, .int 615 0, .int 56 0, .str "/claim/cut.py" 616]), dN⟩,
  ⟨.type "function", none, .func (dF "minus" "minus" (topS 22) 3 [] (.none) (.none) (.none) (.str "guestseats.ratios" 579) (none) (.ref 224) (.none) 0), dN⟩,
  ⟨.type "tuple", none, .seq (dA []) 0, dN⟩,
  ⟨.none, none, .fields (dA []), dN⟩,
  ⟨.type "tuple", none, .seq (dA [.str "one" 621, .str "two" 622]) 0, dN⟩,
  ⟨.type "tuple", none, .seq (dA []) 0, dN⟩,
  ⟨.none, none, .func (dF "times" "times" (topS 23) 0 [] (.none) (.none) (.none) (.none) (none) (.none) (.none) 0), dN⟩]
def ob3_2 (P : Params) : List Obj := [
  ⟨.type "code", none, .fields (dA [.str "times" 618, .str "times" 619, .str "/claim/cut.py" 620, .int 58 0, .int 2 0, .int 0 0, .int 0 0, .int 3 0, .ref 226, .bool true, .int 374 0, .ref 227, .none, .ref 228, .ref 229, .ref 230, .int 623 0, .int 58 0, .str "/claim/cut.py" 624]), dN⟩,
  ⟨.type "function", none, .func (dF "times" "times" (topS 23) 3 [] (.none) (.none) (.none) (.str "guestseats.ratios" 579) (none) (.ref 231) (.none) 0), dN⟩,
  ⟨.type "tuple", none, .seq (dA []) 0, dN⟩,
  ⟨.none, none, .fields (dA []), dN⟩,
  ⟨.type "tuple", none, .seq (dA [.str "one" 629, .str "two" 630]) 0, dN⟩,
  ⟨.type "tuple", none, .seq (dA []) 0, dN⟩,
  ⟨.none, none, .func (dF "over" "over" (topS 24) 0 [] (.none) (.none) (.none) (.none) (none) (.none) (.none) 0), dN⟩,
  ⟨.type "code", none, .fields (dA [.str "over" 626, .str "over" 627, .str "/claim/cut.py" 628, .int 60 0, .int 2 0, .int 0 0, .int 0 0, .int 3 0, .ref 233, .bool true, .int 374 0, .ref 234, .none, .ref 235, .ref 236, .ref 237, .int 631 0, .int 60 0, .str "/claim/cut.py" 632]), dN⟩,
  ⟨.type "function", none, .func (dF "over" "over" (topS 24) 3 [] (.none) (.none) (.none) (.str "guestseats.ratios" 579) (none) (.ref 238) (.none) 0), dN⟩,
  ⟨.type "tuple", none, .seq (dA []) 0, dN⟩,
  ⟨.none, none, .fields (dA []), dN⟩,
  ⟨.type "tuple", none, .seq (dA [.str "one" 637, .str "many" 638, .str "top" 639, .str "low" 640, .str "_" 641]) 0, dN⟩,
  ⟨.type "tuple", none, .seq (dA []) 0, dN⟩,
  ⟨.none, none, .func (dF "power" "power" (topS 25) 0 [] (.none) (.none) (.none) (.none) (none) (.none) (.none) 0), dN⟩,
  ⟨.type "code", none, .fields (dA [.str "power" 634, .str "power" 635, .str "/claim/cut.py" 636, .int 62 0, .int 2 0, .int 0 0, .int 0 0, .int 3 0, .ref 240, .bool true, .int 374 0, .ref 241, .none, .ref 242, .ref 243, .ref 244, .int 642 0, .int 62 0, .str "/claim/cut.py" 643]), dN⟩,
  ⟨.type "function", none, .func (dF "power" "power" (topS 25) 3 [] (.none) (.none) (.none) (.str "guestseats.ratios" 579) (none) (.ref 245) (.none) 0), dN⟩,
  ⟨.type "tuple", none, .seq (dA []) 0, dN⟩,
  ⟨.none, none, .fields (dA []), dN⟩,
  ⟨.type "tuple", none, .seq (dA [.str "fractions" 648, .str "found" 649, .str "each" 650]) 0, dN⟩,
  ⟨.type "tuple", none, .seq (dA []) 0, dN⟩,
  ⟨.none, none, .func (dF "total_of" "total_of" (topS 26) 0 [] (.none) (.none) (.none) (.none) (none) (.none) (.none) 0), dN⟩,
  ⟨.type "code", none, .fields (dA [.str "total_of" 645, .str "total_of" 646, .str "/claim/cut.py" 647, .int 67 0, .int 1 0, .int 0 0, .int 0 0, .int 3 0, .ref 247, .bool true, .int 374 0, .ref 248, .none, .ref 249, .ref 250, .ref 251, .int 651 0, .int 67 0, .str "/claim/cut.py" 652]), dN⟩,
  ⟨.type "function", none, .func (dF "total_of" "total_of" (topS 26) 3 [] (.none) (.none) (.none) (.str "guestseats.ratios" 579) (none) (.ref 252) (.none) 0), dN⟩,
  ⟨.type "tuple", none, .seq (dA []) 0, dN⟩,
  ⟨.none, none, .fields (dA []), dN⟩,
  ⟨.type "tuple", none, .seq (dA [.str "one" 657, .str "two" 658]) 0, dN⟩,
  ⟨.type "tuple", none, .seq (dA []) 0, dN⟩,
  ⟨.none, none, .func (dF "is_below" "is_below" (topS 27) 0 [] (.none) (.none) (.none) (.none) (none) (.none) (.none) 0), dN⟩,
  ⟨.type "code", none, .fields (dA [.str "is_below" 654, .str "is_below" 655, .str "/claim/cut.py" 656, .int 72 0, .int 2 0, .int 0 0, .int 0 0, .int 3 0, .ref 254, .bool true, .int 374 0, .ref 255, .none, .ref 256, .ref 257, .ref 258, .int 659 0, .int 72 0, .str "/claim/cut.py" 660]), dN⟩,
  ⟨.type "function", none, .func (dF "is_below" "is_below" (topS 27) 3 [] (.none) (.none) (.none) (.str "guestseats.ratios" 579) (none) (.ref 259) (.none) 0), dN⟩,
  ⟨.type "tuple", none, .seq (dA []) 0, dN⟩,
  ⟨.none, none, .fields (dA []), dN⟩,
  ⟨.type "tuple", none, .seq (dA [.str "one" 665, .str "two" 666]) 0, dN⟩,
  ⟨.type "tuple", none, .seq (dA []) 0, dN⟩,
  ⟨.none, none, .func (dF "side_of_two" "side_of_two" (topS 28) 0 [] (.none) (.none) (.none) (.none) (none) (.none) (.none) 0), dN⟩,
  ⟨.type "code", none, .fields (dA [.str "side_of_two" 662, .str "side_of_two" 663, .str "/claim/cut.py" 664, .int 74 0, .int 2 0, .int 0 0, .int 0 0, .int 3 0, .ref 261, .bool true, .int 374 0, .ref 262, .none, .ref 263, .ref 264, .ref 265, .int 667 0, .int 74 0, .str "/claim/cut.py" 668]), dN⟩,
  ⟨.type "function", none, .func (dF "side_of_two" "side_of_two" (topS 28) 3 [] (.none) (.none) (.none) (.str "guestseats.ratios" 579) (none) (.ref 266) (.none) 0), dN⟩,
  ⟨.type "tuple", none, .seq (dA []) 0, dN⟩,
  ⟨.none, none, .fields (dA []), dN⟩,
  ⟨.type "tuple", none, .seq (dA [.str "fractions" 673, .str "found" 674, .str "each" 675]) 0, dN⟩]
def ob3_3 (P : Params) : List Obj := [
  ⟨.type "tuple", none, .seq (dA []) 0, dN⟩,
  ⟨.none, none, .func (dF "common_low" "common_low" (topS 29) 0 [] (.none) (.none) (.none) (.none) (none) (.none) (.none) 0), dN⟩,
  ⟨.type "code", none, .fields (dA [.str "common_low" 670, .str "common_low" 671, .str "/claim/cut.py" 672, .int 76 0, .int 1 0, .int 0 0, .int 0 0, .int 3 0, .ref 268, .bool true, .int 374 0, .ref 269, .none, .ref 270, .ref 271, .ref 272, .int 676 0, .int 76 0, .str "/claim/cut.py" 677]), dN⟩,
  ⟨.type "function", none, .func (dF "common_low" "common_low" (topS 29) 3 [] (.none) (.none) (.none) (.str "guestseats.ratios" 579) (none) (.ref 273) (.none) 0), dN⟩,
  ⟨.type "tuple", none, .seq (dA []) 0, dN⟩,
  ⟨.none, none, .fields (dA []), dN⟩,
  ⟨.none, none, .func (dF "made_whole" "made_whole" (topS 30) 0 [] (.none) (.none) (.none) (.none) (none) (.none) (.none) 0), dN⟩,
  ⟨.type "code", none, .fields (dA [.str "made_whole" 679, .str "made_whole" 680, .str "/claim/cut.py" 681, .int 81 0, .int 2 0, .int 0 0, .int 0 0, .int 3 0, .ref 275, .bool true, .int 374 0, .ref 276, .none, .none, .none, .ref 277, .int 682 0, .int 81 0, .str "/claim/cut.py" 683]), dN⟩,
  ⟨.type "function", none, .func (dF "made_whole" "made_whole" (topS 30) 3 [] (.none) (.none) (.none) (.str "guestseats.ratios" 579) (none) (.ref 278) (.none) 0), dN⟩,
  ⟨.type "tuple", none, .seq (dA []) 0, dN⟩,
  ⟨.none, none, .fields (dA []), dN⟩,
  ⟨.type "tuple", none, .seq (dA [.str "row" 690, .str "last" 691]) 0, dN⟩,
  ⟨.type "tuple", none, .seq (dA []) 0, dN⟩,
  ⟨.none, none, .func (dF "trimmed" "trimmed" (topS 32) 0 [] (.none) (.none) (.none) (.none) (none) (.none) (.none) 0), dN⟩,
  ⟨.type "code", none, .fields (dA [.str "trimmed" 687, .str "trimmed" 688, .str "/claim/cut.py" 689, .int 84 0, .int 1 0, .int 0 0, .int 0 0, .int 3 0, .ref 280, .bool true, .int 374 0, .ref 281, .none, .ref 282, .ref 283, .ref 284, .int 692 0, .int 84 0, .str "/claim/cut.py" 693]), dN⟩,
  ⟨.type "function", none, .func (dF "trimmed" "trimmed" (topS 32) 3 [] (.none) (.none) (.none) (.str "guestseats.polys" 685) (none) (.ref 285) (.none) 0), dN⟩,
  ⟨.type "tuple", none, .seq (dA []) 0, dN⟩,
  ⟨.none, none, .fields (dA []), dN⟩,
  ⟨.none, none, .func (dF "poly_plus" "poly_plus" (topS 33) 0 [] (.none) (.none) (.none) (.none) (none) (.none) (.none) 0), dN⟩,
  ⟨.type "code", none, .fields (dA [.str "poly_plus" 695, .str "poly_plus" 696, .str "/claim/cut.py" 697, .int 89 0, .int 2 0, .int 0 0, .int 0 0, .int 3 0, .ref 287, .bool true, .int 374 0, .ref 288, .none, .none, .none, .ref 289, .int 698 0, .int 89 0, .str "/claim/cut.py" 699]), dN⟩,
  ⟨.type "function", none, .func (dF "poly_plus" "poly_plus" (topS 33) 3 [] (.none) (.none) (.none) (.str "guestseats.polys" 685) (none) (.ref 290) (.none) 0), dN⟩,
  ⟨.type "tuple", none, .seq (dA []) 0, dN⟩,
  ⟨.none, none, .fields (dA []), dN⟩,
  ⟨.none, none, .func (dF "poly_scaled" "poly_scaled" (topS 34) 0 [] (.none) (.none) (.none) (.none) (none) (.none) (.none) 0), dN⟩,
  ⟨.type "code", none, .fields (dA [.str "poly_scaled" 701, .str "poly_scaled" 702, .str "/claim/cut.py" 703, .int 93 0, .int 2 0, .int 0 0, .int 0 0, .int 3 0, .ref 292, .bool true, .int 374 0, .ref 293, .none, .none, .none, .ref 294, .int 704 0, .int 93 0, .str "/claim/cut.py" 705]), dN⟩,
  ⟨.type "function", none, .func (dF "poly_scaled" "poly_scaled" (topS 34) 3 [] (.none) (.none) (.none) (.str "guestseats.polys" 685) (none) (.ref 295) (.none) 0), dN⟩,
  ⟨.type "tuple", none, .seq (dA []) 0, dN⟩,
  ⟨.none, none, .fields (dA []), dN⟩,
  ⟨.type "tuple", none, .seq (dA [.str "one" 710, .str "two" 711]) 0, dN⟩,
  ⟨.type "tuple", none, .seq (dA []) 0, dN⟩,
  ⟨.none, none, .func (dF "poly_minus" "poly_minus" (topS 35) 0 [] (.none) (.none) (.none) (.none) (none) (.none) (.none) 0), dN⟩,
  ⟨.type "code", none, .fields (dA [.str "poly_minus" 707, .str "poly_minus" 708, .str "/claim/cut.py" 709, .int 95 0, .int 2 0, .int 0 0, .int 0 0, .int 3 0, .ref 297, .bool true, .int 374 0, .ref 298, .none, .ref 299, .ref 300, .ref 301, .int 712 0, .int 95 0, .str "/claim/cut.py" 713]), dN⟩,
  ⟨.type "function", none, .func (dF "poly_minus" "poly_minus" (topS 35) 3 [] (.none) (.none) (.none) (.str "guestseats.polys" 685) (none) (.ref 302) (.none) 0), dN⟩,
  ⟨.type "tuple", none, .seq (dA []) 0, dN⟩,
  ⟨.none, none, .fields (dA []), dN⟩,
  ⟨.type "tuple", none, .seq (dA [.str "one" 718, .str "two" 719, .str "found" 720, .str "at" 721, .str "mine" 722, .str "place" 723, .str "its" 724]) 0, dN⟩,
  ⟨.type "tuple", none, .seq (dA []) 0, dN⟩,
  ⟨.none, none, .func (dF "poly_times" "poly_times" (topS 36) 0 [] (.none) (.none) (.none) (.none) (none) (.none) (.none) 0), dN⟩,
  ⟨.type "code", none, .fields (dA [.str "poly_times" 715, .str "poly_times" 716, .str "/claim/cut.py" 717, .int 97 0, .int 2 0, .int 0 0, .int 0 0, .int 3 0, .ref 304, .bool true, .int 374 0, .ref 305, .none, .ref 306, .ref 307, .ref 308, .int 725 0, .int 97 0, .str "/claim/cut.py" 726]), dN⟩,
  ⟨.type "function", none, .func (dF "poly_times" "poly_times" (topS 36) 3 [] (.none) (.none) (.none) (.str "guestseats.polys" 685) (none) (.ref 309) (.none) 0), dN⟩]
def ob3_4 (P : Params) : List Obj := [
  ⟨.type "tuple", none, .seq (dA []) 0, dN⟩,
  ⟨.none, none, .fields (dA []), dN⟩,
  ⟨.type "tuple", none, .seq (dA [.str "one" 731, .str "many" 732]) 0, dN⟩,
  ⟨.type "tuple", none, .seq (dA []) 0, dN⟩,
  ⟨.none, none, .func (dF "poly_up" "poly_up" (topS 37) 0 [] (.none) (.none) (.none) (.none) (none) (.none) (.none) 0), dN⟩,
  ⟨.type "code", none, .fields (dA [.str "poly_up" 728, .str "poly_up" 729, .str "/claim/cut.py" 730, .int 103 0, .int 2 0, .int 0 0, .int 0 0, .int 3 0, .ref 311, .bool true, .int 374 0, .ref 312, .none, .ref 313, .ref 314, .ref 315, .int 733 0, .int 103 0, .str "/claim/cut.py" 734]), dN⟩,
  ⟨.type "function", none, .func (dF "poly_up" "poly_up" (topS 37) 3 [] (.none) (.none) (.none) (.str "guestseats.polys" 685) (none) (.ref 316) (.none) 0), dN⟩,
  ⟨.type "tuple", none, .seq (dA []) 0, dN⟩,
  ⟨.none, none, .fields (dA []), dN⟩,
  ⟨.none, none, .func (dF "slope_of" "slope_of" (topS 38) 0 [] (.none) (.none) (.none) (.none) (none) (.none) (.none) 0), dN⟩,
  ⟨.type "code", none, .fields (dA [.str "slope_of" 736, .str "slope_of" 737, .str "/claim/cut.py" 738, .int 105 0, .int 1 0, .int 0 0, .int 0 0, .int 3 0, .ref 318, .bool true, .int 374 0, .ref 319, .none, .none, .none, .ref 320, .int 739 0, .int 105 0, .str "/claim/cut.py" 740]), dN⟩,
  ⟨.type "function", none, .func (dF "slope_of" "slope_of" (topS 38) 3 [] (.none) (.none) (.none) (.str "guestseats.polys" 685) (none) (.ref 321) (.none) 0), dN⟩,
  ⟨.type "tuple", none, .seq (dA []) 0, dN⟩,
  ⟨.none, none, .fields (dA []), dN⟩,
  ⟨.type "tuple", none, .seq (dA [.str "one" 745]) 0, dN⟩,
  ⟨.type "tuple", none, .seq (dA []) 0, dN⟩,
  ⟨.none, none, .func (dF "formed" "formed" (topS 39) 0 [] (.none) (.none) (.none) (.none) (none) (.none) (.none) 0), dN⟩,
  ⟨.type "code", none, .fields (dA [.str "formed" 742, .str "formed" 743, .str "/claim/cut.py" 744, .int 107 0, .int 1 0, .int 0 0, .int 0 0, .int 3 0, .ref 323, .bool true, .int 374 0, .ref 324, .none, .ref 325, .ref 326, .ref 327, .int 746 0, .int 107 0, .str "/claim/cut.py" 747]), dN⟩,
  ⟨.type "function", none, .func (dF "formed" "formed" (topS 39) 3 [] (.none) (.none) (.none) (.str "guestseats.polys" 685) (none) (.ref 328) (.none) 0), dN⟩,
  ⟨.type "tuple", none, .seq (dA []) 0, dN⟩,
  ⟨.none, none, .fields (dA []), dN⟩,
  ⟨.none, none, .func (dF "polys_of" "polys_of" (topS 40) 0 [] (.none) (.none) (.none) (.none) (none) (.none) (.none) 0), dN⟩,
  ⟨.type "code", none, .fields (dA [.str "polys_of" 749, .str "polys_of" 750, .str "/claim/cut.py" 751, .int 109 0, .int 1 0, .int 0 0, .int 0 0, .int 3 0, .ref 330, .bool true, .int 374 0, .ref 331, .none, .none, .none, .ref 332, .int 752 0, .int 109 0, .str "/claim/cut.py" 753]), dN⟩,
  ⟨.type "function", none, .func (dF "polys_of" "polys_of" (topS 40) 3 [] (.none) (.none) (.none) (.str "guestseats.polys" 685) (none) (.ref 333) (.none) 0), dN⟩,
  ⟨.type "tuple", none, .seq (dA []) 0, dN⟩,
  ⟨.none, none, .fields (dA []), dN⟩,
  ⟨.type "tuple", none, .seq (dA [.str "one" 758, .str "place" 759, .str "found" 760, .str "low" 761, .str "each" 762]) 0, dN⟩,
  ⟨.type "tuple", none, .seq (dA []) 0, dN⟩,
  ⟨.none, none, .func (dF "number_at" "number_at" (topS 41) 0 [] (.none) (.none) (.none) (.none) (none) (.none) (.none) 0), dN⟩,
  ⟨.type "code", none, .fields (dA [.str "number_at" 755, .str "number_at" 756, .str "/claim/cut.py" 757, .int 112 0, .int 2 0, .int 0 0, .int 0 0, .int 3 0, .ref 335, .bool true, .int 374 0, .ref 336, .none, .ref 337, .ref 338, .ref 339, .int 763 0, .int 112 0, .str "/claim/cut.py" 764]), dN⟩,
  ⟨.type "function", none, .func (dF "number_at" "number_at" (topS 41) 3 [] (.none) (.none) (.none) (.str "guestseats.polys" 685) (none) (.ref 340) (.none) 0), dN⟩,
  ⟨.type "tuple", none, .seq (dA []) 0, dN⟩,
  ⟨.none, none, .fields (dA []), dN⟩,
  ⟨.type "tuple", none, .seq (dA [.str "one" 769, .str "place" 770]) 0, dN⟩,
  ⟨.type "tuple", none, .seq (dA []) 0, dN⟩,
  ⟨.none, none, .func (dF "sign_at" "sign_at" (topS 42) 0 [] (.none) (.none) (.none) (.none) (none) (.none) (.none) 0), dN⟩,
  ⟨.type "code", none, .fields (dA [.str "sign_at" 766, .str "sign_at" 767, .str "/claim/cut.py" 768, .int 117 0, .int 2 0, .int 0 0, .int 0 0, .int 3 0, .ref 342, .bool true, .int 374 0, .ref 343, .none, .ref 344, .ref 345, .ref 346, .int 771 0, .int 117 0, .str "/claim/cut.py" 772]), dN⟩,
  ⟨.type "function", none, .func (dF "sign_at" "sign_at" (topS 42) 3 [] (.none) (.none) (.none) (.str "guestseats.polys" 685) (none) (.ref 347) (.none) 0), dN⟩,
  ⟨.type "tuple", none, .seq (dA []) 0, dN⟩,
  ⟨.none, none, .fields (dA []), dN⟩]
def ob3_5 (P : Params) : List Obj := [
  ⟨.none, none, .func (dF "divided" "divided" (topS 43) 0 [] (.none) (.none) (.none) (.none) (none) (.none) (.none) 0), dN⟩,
  ⟨.type "code", none, .fields (dA [.str "divided" 774, .str "divided" 775, .str "/claim/cut.py" 776, .int 119 0, .int 2 0, .int 0 0, .int 0 0, .int 3 0, .ref 349, .bool true, .int 374 0, .ref 350, .none, .none, .none, .ref 351, .int 777 0, .int 119 0, .str "/claim/cut.py" 778]), dN⟩,
  ⟨.type "function", none, .func (dF "divided" "divided" (topS 43) 3 [] (.none) (.none) (.none) (.str "guestseats.polys" 685) (none) (.ref 352) (.none) 0), dN⟩,
  ⟨.type "tuple", none, .seq (dA []) 0, dN⟩,
  ⟨.none, none, .fields (dA []), dN⟩,
  ⟨.type "tuple", none, .seq (dA [.str "one" 783, .str "two" 784]) 0, dN⟩,
  ⟨.type "tuple", none, .seq (dA []) 0, dN⟩,
  ⟨.none, none, .func (dF "common_part" "common_part" (topS 44) 0 [] (.none) (.none) (.none) (.none) (none) (.none) (.none) 0), dN⟩,
  ⟨.type "code", none, .fields (dA [.str "common_part" 780, .str "common_part" 781, .str "/claim/cut.py" 782, .int 127 0, .int 2 0, .int 0 0, .int 0 0, .int 3 0, .ref 354, .bool true, .int 374 0, .ref 355, .none, .ref 356, .ref 357, .ref 358, .int 785 0, .int 127 0, .str "/claim/cut.py" 786]), dN⟩,
  ⟨.type "function", none, .func (dF "common_part" "common_part" (topS 44) 3 [] (.none) (.none) (.none) (.str "guestseats.polys" 685) (none) (.ref 359) (.none) 0), dN⟩,
  ⟨.type "tuple", none, .seq (dA []) 0, dN⟩,
  ⟨.none, none, .fields (dA []), dN⟩,
  ⟨.type "tuple", none, .seq (dA [.str "one" 791, .str "part" 792]) 0, dN⟩,
  ⟨.type "tuple", none, .seq (dA []) 0, dN⟩,
  ⟨.none, none, .func (dF "single_roots" "single_roots" (topS 45) 0 [] (.none) (.none) (.none) (.none) (none) (.none) (.none) 0), dN⟩,
  ⟨.type "code", none, .fields (dA [.str "single_roots" 788, .str "single_roots" 789, .str "/claim/cut.py" 790, .int 131 0, .int 1 0, .int 0 0, .int 0 0, .int 3 0, .ref 361, .bool true, .int 374 0, .ref 362, .none, .ref 363, .ref 364, .ref 365, .int 793 0, .int 131 0, .str "/claim/cut.py" 794]), dN⟩,
  ⟨.type "function", none, .func (dF "single_roots" "single_roots" (topS 45) 3 [] (.none) (.none) (.none) (.str "guestseats.polys" 685) (none) (.ref 366) (.none) 0), dN⟩,
  ⟨.type "tuple", none, .seq (dA []) 0, dN⟩,
  ⟨.none, none, .fields (dA []), dN⟩,
  ⟨.type "tuple", none, .seq (dA [.str "one" 799, .str "at" 800]) 0, dN⟩,
  ⟨.type "tuple", none, .seq (dA []) 0, dN⟩,
  ⟨.none, none, .func (dF "without_nought" "without_nought" (topS 46) 0 [] (.none) (.none) (.none) (.none) (none) (.none) (.none) 0), dN⟩,
  ⟨.type "code", none, .fields (dA [.str "without_nought" 796, .str "without_nought" 797, .str "/claim/cut.py" 798, .int 134 0, .int 1 0, .int 0 0, .int 0 0, .int 3 0, .ref 368, .bool true, .int 374 0, .ref 369, .none, .ref 370, .ref 371, .ref 372, .int 801 0, .int 134 0, .str "/claim/cut.py" 802]), dN⟩,
  ⟨.type "function", none, .func (dF "without_nought" "without_nought" (topS 46) 3 [] (.none) (.none) (.none) (.str "guestseats.polys" 685) (none) (.ref 373) (.none) 0), dN⟩,
  ⟨.type "tuple", none, .seq (dA []) 0, dN⟩,
  ⟨.none, none, .fields (dA []), dN⟩,
  ⟨.type "tuple", none, .seq (dA [.str "one" 807, .str "found" 808, .str "this" 809, .str "that" 810]) 0, dN⟩,
  ⟨.type "tuple", none, .seq (dA []) 0, dN⟩,
  ⟨.none, none, .func (dF "chain_of" "chain_of" (topS 47) 0 [] (.none) (.none) (.none) (.none) (none) (.none) (.none) 0), dN⟩,
  ⟨.type "code", none, .fields (dA [.str "chain_of" 804, .str "chain_of" 805, .str "/claim/cut.py" 806, .int 139 0, .int 1 0, .int 0 0, .int 0 0, .int 3 0, .ref 375, .bool true, .int 374 0, .ref 376, .none, .ref 377, .ref 378, .ref 379, .int 811 0, .int 139 0, .str "/claim/cut.py" 812]), dN⟩,
  ⟨.type "function", none, .func (dF "chain_of" "chain_of" (topS 47) 3 [] (.none) (.none) (.none) (.str "guestseats.polys" 685) (none) (.ref 380) (.none) 0), dN⟩,
  ⟨.type "tuple", none, .seq (dA []) 0, dN⟩,
  ⟨.none, none, .fields (dA []), dN⟩,
  ⟨.none, none, .func (dF "changes_at" "changes_at" (topS 48) 0 [] (.none) (.none) (.none) (.none) (none) (.none) (.none) 0), dN⟩,
  ⟨.type "code", none, .fields (dA [.str "changes_at" 814, .str "changes_at" 815, .str "/claim/cut.py" 816, .int 145 0, .int 2 0, .int 0 0, .int 0 0, .int 3 0, .ref 382, .bool true, .int 374 0, .ref 383, .none, .none, .none, .ref 384, .int 817 0, .int 145 0, .str "/claim/cut.py" 818]), dN⟩,
  ⟨.type "function", none, .func (dF "changes_at" "changes_at" (topS 48) 3 [] (.none) (.none) (.none) (.str "guestseats.polys" 685) (none) (.ref 385) (.none) 0), dN⟩,
  ⟨.type "tuple", none, .seq (dA []) 0, dN⟩,
  ⟨.none, none, .fields (dA []), dN⟩,
  ⟨.none, none, .func (dF "bounds_of" "bounds_of" (topS 49) 0 [] (.none) (.none) (.none) (.none) (none) (.none) (.none) 0), dN⟩,
  ⟨.type "code", none, .fields (dA [.str "bounds_of" 820, .str "bounds_of" 821, .str "/claim/cut.py" 822, .int 148 0, .int 1 0, .int 0 0, .int 0 0, .int 3 0, .ref 387, .bool true, .int 374 0, .ref 388, .none, .none, .none, .ref 389, .int 823 0, .int 148 0, .str "/claim/cut.py" 824]), dN⟩]
def ob3_6 (P : Params) : List Obj := [
  ⟨.type "function", none, .func (dF "bounds_of" "bounds_of" (topS 49) 3 [] (.none) (.none) (.none) (.str "guestseats.polys" 685) (none) (.ref 390) (.none) 0), dN⟩,
  ⟨.type "tuple", none, .seq (dA []) 0, dN⟩,
  ⟨.none, none, .fields (dA []), dN⟩,
  ⟨.type "tuple", none, .seq (dA [.str "one" 829, .str "low" 830, .str "high" 831, .str "place" 832]) 0, dN⟩,
  ⟨.type "tuple", none, .seq (dA []) 0, dN⟩,
  ⟨.none, none, .func (dF "parting" "parting" (topS 50) 0 [] (.none) (.none) (.none) (.none) (none) (.none) (.none) 0), dN⟩,
  ⟨.type "code", none, .fields (dA [.str "parting" 826, .str "parting" 827, .str "/claim/cut.py" 828, .int 151 0, .int 3 0, .int 0 0, .int 0 0, .int 3 0, .ref 392, .bool true, .int 374 0, .ref 393, .none, .ref 394, .ref 395, .ref 396, .int 833 0, .int 151 0, .str "/claim/cut.py" 834]), dN⟩,
  ⟨.type "function", none, .func (dF "parting" "parting" (topS 50) 3 [] (.none) (.none) (.none) (.str "guestseats.polys" 685) (none) (.ref 397) (.none) 0), dN⟩]
def ob3 (P : Params) : List Obj := ob3_0 P ++ ob3_1 P ++ ob3_2 P ++ ob3_3 P ++ ob3_4 P ++ ob3_5 P ++ ob3_6 P
def ch3 (P : Params) : List (Nat × Obj) := [
  (3, ⟨.type "dict", none, .dict (dB [dE P "__name__" 165 (.str "guestseats.polys" 685), dE P "__doc__" 166 (.none), dE P "__package__" 167 (.none), dE P "__loader__" 168 (.builtin "__main__.__loader__#opaque"), dE P "__spec__" 169 (.none), dE P "__annotations__" 170 (.ref 6), dE P "__builtins__" 171 (.ref 4), dE P "__file__" 173 (.str "/claim/cut.py" 172), dE P "__cached__" 174 (.none), dE P "gcd" 370 (.builtin "math.gcd"), dE P "lcm" 373 (.builtin "math.lcm"), dE P "SeatError" 399 (.ref 52), dE P "InvalidStrength" 424 (.ref 72), dE P "InvalidCarrier" 449 (.ref 91), dE P "InvalidNumber" 474 (.ref 110), dE P "InvalidBoard" 499 (.ref 129), dE P "InvalidLooks" 524 (.ref 148), dE P "is_whole" 533 (.ref 157), dE P "is_between" 542 (.ref 164), dE P "are_wholes" 548 (.ref 169), dE P "divisor_of" 557 (.ref 176), dE P "lowest" 563 (.ref 181), dE P "sign_of" 570 (.ref 188), dE P "bits_in" 578 (.ref 195), dE P "ZERO" 583 (.ref 196), dE P "ONE" 586 (.ref 197), dE P "is_ratio" 593 (.ref 204), dE P "ratio" 601 (.ref 211), dE P "plus" 609 (.ref 218), dE P "minus" 617 (.ref 225), dE P "times" 625 (.ref 232), dE P "over" 633 (.ref 239), dE P "power" 644 (.ref 246), dE P "total_of" 653 (.ref 253), dE P "is_below" 661 (.ref 260), dE P "side_of_two" 669 (.ref 267), dE P "common_low" 678 (.ref 274), dE P "made_whole" 684 (.ref 279), dE P "trimmed" 694 (.ref 286), dE P "poly_plus" 700 (.ref 291), dE P "poly_scaled" 706 (.ref 296), dE P "poly_minus" 714 (.ref 303), dE P "poly_times" 727 (.ref 310), dE P "poly_up" 735 (.ref 317), dE P "slope_of" 741 (.ref 322), dE P "formed" 748 (.ref 329), dE P "polys_of" 754 (.ref 334), dE P "number_at" 765 (.ref 341), dE P "sign_at" 773 (.ref 348), dE P "divided" 779 (.ref 353), dE P "common_part" 787 (.ref 360), dE P "single_roots" 795 (.ref 367), dE P "without_nought" 803 (.ref 374), dE P "chain_of" 813 (.ref 381), dE P "changes_at" 819 (.ref 386), dE P "bounds_of" 825 (.ref 391), dE P "parting" 835 (.ref 398)]) 57, dN⟩),
  (40, ⟨.none, none, .fields (dA [.int 3 0, .int 0 0, .ref 48, .int 5 0, .int 0 0, .ref 61, .int 9 0, .int 0 0, .ref 80, .int 13 0, .int 0 0, .ref 99, .int 17 0, .int 0 0, .ref 118, .int 21 0, .int 0 0, .ref 137, .int 26 0, .int 0 0, .ref 156, .int 28 0, .int 0 0, .ref 163, .int 30 0, .int 0 0, .ref 168, .int 32 0, .int 0 0, .ref 175, .int 37 0, .int 0 0, .ref 180, .int 40 0, .int 0 0, .ref 187, .int 42 0, .int 0 0, .ref 194, .int 50 0, .int 0 0, .ref 203, .int 52 0, .int 0 0, .ref 210, .int 54 0, .int 0 0, .ref 217, .int 56 0, .int 0 0, .ref 224, .int 58 0, .int 0 0, .ref 231, .int 60 0, .int 0 0, .ref 238, .int 62 0, .int 0 0, .ref 245, .int 67 0, .int 0 0, .ref 252, .int 72 0, .int 0 0, .ref 259, .int 74 0, .int 0 0, .ref 266, .int 76 0, .int 0 0, .ref 273, .int 81 0, .int 0 0, .ref 278, .int 84 0, .int 0 0, .ref 285, .int 89 0, .int 0 0, .ref 290, .int 93 0, .int 0 0, .ref 295, .int 95 0, .int 0 0, .ref 302, .int 97 0, .int 0 0, .ref 309, .int 103 0, .int 0 0, .ref 316, .int 105 0, .int 0 0, .ref 321, .int 107 0, .int 0 0, .ref 328, .int 109 0, .int 0 0, .ref 333, .int 112 0, .int 0 0, .ref 340, .int 117 0, .int 0 0, .ref 347, .int 119 0, .int 0 0, .ref 352, .int 127 0, .int 0 0, .ref 359, .int 131 0, .int 0 0, .ref 366, .int 134 0, .int 0 0, .ref 373, .int 139 0, .int 0 0, .ref 380, .int 145 0, .int 0 0, .ref 385, .int 148 0, .int 0 0, .ref 390, .int 151 0, .int 0 0, .ref 397]), dN⟩)]
def tr3 (P : Params) : PySem.W.BT := setAll (ch3 P) (insAll (ob3 P) (tr2 P) 151)
def st3 (w : World) (os : OsState) : PySem.W.SharedT := ⟨tr3 w.params, 399, {}, Array.mk [], {}, 836, os⟩
def ob4_0 (P : Params) : List Obj := [
  ⟨.type "tuple", none, .seq (dA []) 0, dN⟩,
  ⟨.none, none, .fields (dA []), dN⟩,
  ⟨.type "tuple", none, .seq (dA [.str "one" 839, .str "chain" 840, .str "low" 841, .str "high" 842, .str "waiting" 843, .str "found" 844, .str "left" 845, .str "mine" 846, .str "right" 847, .str "its" 848, .str "place" 849, .str "there" 850]) 0, dN⟩,
  ⟨.type "tuple", none, .seq (dA []) 0, dN⟩,
  ⟨.none, none, .func (dF "spans_of" "spans_of" (topS 51) 0 [] (.none) (.none) (.none) (.none) (none) (.none) (.none) 0), dN⟩,
  ⟨.type "code", none, .fields (dA [.str "spans_of" 836, .str "spans_of" 837, .str "/claim/cut.py" 838, .int 156 0, .int 1 0, .int 0 0, .int 0 0, .int 3 0, .ref 399, .bool true, .int 374 0, .ref 400, .none, .ref 401, .ref 402, .ref 403, .int 851 0, .int 156 0, .str "/claim/cut.py" 852]), dN⟩,
  ⟨.type "function", none, .func (dF "spans_of" "spans_of" (topS 51) 3 [] (.none) (.none) (.none) (.str "guestseats.polys" 685) (none) (.ref 404) (.none) 0), dN⟩,
  ⟨.type "tuple", none, .seq (dA []) 0, dN⟩,
  ⟨.none, none, .fields (dA []), dN⟩,
  ⟨.none, none, .func (dF "looks_of" "looks_of" (topS 52) 0 [] (.none) (.none) (.none) (.none) (none) (.none) (.none) 0), dN⟩,
  ⟨.type "code", none, .fields (dA [.str "looks_of" 854, .str "looks_of" 855, .str "/claim/cut.py" 856, .int 170 0, .int 1 0, .int 0 0, .int 0 0, .int 3 0, .ref 406, .bool true, .int 374 0, .ref 407, .none, .none, .none, .ref 408, .int 857 0, .int 170 0, .str "/claim/cut.py" 858]), dN⟩,
  ⟨.type "function", none, .func (dF "looks_of" "looks_of" (topS 52) 3 [] (.none) (.none) (.none) (.str "guestseats.polys" 685) (none) (.ref 409) (.none) 0), dN⟩,
  ⟨.type "tuple", none, .seq (dA []) 0, dN⟩,
  ⟨.none, none, .fields (dA []), dN⟩,
  ⟨.type "tuple", none, .seq (dA [.str "one" 863, .str "found" 864, .str "place" 865]) 0, dN⟩,
  ⟨.type "tuple", none, .seq (dA []) 0, dN⟩,
  ⟨.none, none, .func (dF "row_of" "row_of" (topS 53) 0 [] (.none) (.none) (.none) (.none) (none) (.none) (.none) 0), dN⟩,
  ⟨.type "code", none, .fields (dA [.str "row_of" 860, .str "row_of" 861, .str "/claim/cut.py" 862, .int 175 0, .int 1 0, .int 0 0, .int 0 0, .int 3 0, .ref 411, .bool true, .int 374 0, .ref 412, .none, .ref 413, .ref 414, .ref 415, .int 866 0, .int 175 0, .str "/claim/cut.py" 867]), dN⟩,
  ⟨.type "function", none, .func (dF "row_of" "row_of" (topS 53) 3 [] (.none) (.none) (.none) (.str "guestseats.polys" 685) (none) (.ref 416) (.none) 0), dN⟩,
  ⟨.type "tuple", none, .seq (dA [.int 2 871, .int 4 872, .int 8 873, .int 16 874, .int 32 875]) 0, dN⟩,
  ⟨.type "tuple", none, .seq (dA []) 0, dN⟩,
  ⟨.none, none, .fields (dA []), dN⟩,
  ⟨.type "tuple", none, .seq (dA [.str "value" 880]) 0, dN⟩,
  ⟨.type "tuple", none, .seq (dA []) 0, dN⟩,
  ⟨.none, none, .func (dF "is_amount" "is_amount" (topS 56) 0 [] (.none) (.none) (.none) (.none) (none) (.none) (.none) 0), dN⟩,
  ⟨.type "code", none, .fields (dA [.str "is_amount" 877, .str "is_amount" 878, .str "/claim/cut.py" 879, .int 186 0, .int 1 0, .int 0 0, .int 0 0, .int 3 0, .ref 419, .bool true, .int 374 0, .ref 420, .none, .ref 421, .ref 422, .ref 423, .int 881 0, .int 186 0, .str "/claim/cut.py" 882]), dN⟩,
  ⟨.type "function", none, .func (dF "is_amount" "is_amount" (topS 56) 3 [] (.none) (.none) (.none) (.str "guestseats.carriers" 869) (none) (.ref 424) (.none) 0), dN⟩,
  ⟨.type "tuple", none, .seq (dA []) 0, dN⟩,
  ⟨.none, none, .fields (dA []), dN⟩,
  ⟨.none, none, .func (dF "is_carrier" "is_carrier" (topS 57) 0 [] (.none) (.none) (.none) (.none) (none) (.none) (.none) 0), dN⟩,
  ⟨.type "code", none, .fields (dA [.str "is_carrier" 884, .str "is_carrier" 885, .str "/claim/cut.py" 886, .int 188 0, .int 1 0, .int 0 0, .int 0 0, .int 3 0, .ref 426, .bool true, .int 374 0, .ref 427, .none, .none, .none, .ref 428, .int 887 0, .int 188 0, .str "/claim/cut.py" 888]), dN⟩,
  ⟨.type "function", none, .func (dF "is_carrier" "is_carrier" (topS 57) 3 [] (.none) (.none) (.none) (.str "guestseats.carriers" 869) (none) (.ref 429) (.none) 0), dN⟩,
  ⟨.type "tuple", none, .seq (dA []) 0, dN⟩,
  ⟨.none, none, .fields (dA []), dN⟩,
  ⟨.type "tuple", none, .seq (dA [.str "value" 893]) 0, dN⟩,
  ⟨.type "tuple", none, .seq (dA []) 0, dN⟩,
  ⟨.none, none, .func (dF "check_carrier" "check_carrier" (topS 58) 0 [] (.none) (.none) (.none) (.none) (none) (.none) (.none) 0), dN⟩,
  ⟨.type "code", none, .fields (dA [.str "check_carrier" 890, .str "check_carrier" 891, .str "/claim/cut.py" 892, .int 192 0, .int 1 0, .int 0 0, .int 0 0, .int 3 0, .ref 431, .bool true, .int 374 0, .ref 432, .none, .ref 433, .ref 434, .ref 435, .int 894 0, .int 192 0, .str "/claim/cut.py" 895]), dN⟩,
  ⟨.type "function", none, .func (dF "check_carrier" "check_carrier" (topS 58) 3 [] (.none) (.none) (.none) (.str "guestseats.carriers" 869) (none) (.ref 436) (.none) 0), dN⟩,
  ⟨.type "tuple", none, .seq (dA []) 0, dN⟩]
def ob4_1 (P : Params) : List Obj := [
  ⟨.none, none, .fields (dA []), dN⟩,
  ⟨.type "tuple", none, .seq (dA [.str "value" 900]) 0, dN⟩,
  ⟨.type "tuple", none, .seq (dA []) 0, dN⟩,
  ⟨.none, none, .func (dF "check_strength" "check_strength" (topS 59) 0 [] (.none) (.none) (.none) (.none) (none) (.none) (.none) 0), dN⟩,
  ⟨.type "code", none, .fields (dA [.str "check_strength" 897, .str "check_strength" 898, .str "/claim/cut.py" 899, .int 195 0, .int 1 0, .int 0 0, .int 0 0, .int 3 0, .ref 438, .bool true, .int 374 0, .ref 439, .none, .ref 440, .ref 441, .ref 442, .int 901 0, .int 195 0, .str "/claim/cut.py" 902]), dN⟩,
  ⟨.type "function", none, .func (dF "check_strength" "check_strength" (topS 59) 3 [] (.none) (.none) (.none) (.str "guestseats.carriers" 869) (none) (.ref 443) (.none) 0), dN⟩,
  ⟨.type "tuple", none, .seq (dA []) 0, dN⟩,
  ⟨.none, none, .fields (dA []), dN⟩,
  ⟨.type "tuple", none, .seq (dA [.str "carrier" 907]) 0, dN⟩,
  ⟨.type "tuple", none, .seq (dA []) 0, dN⟩,
  ⟨.none, none, .func (dF "seat_count" "seat_count" (topS 60) 0 [] (.none) (.none) (.none) (.none) (none) (.none) (.none) 0), dN⟩,
  ⟨.type "code", none, .fields (dA [.str "seat_count" 904, .str "seat_count" 905, .str "/claim/cut.py" 906, .int 198 0, .int 1 0, .int 0 0, .int 0 0, .int 3 0, .ref 445, .bool true, .int 374 0, .ref 446, .none, .ref 447, .ref 448, .ref 449, .int 908 0, .int 198 0, .str "/claim/cut.py" 909]), dN⟩,
  ⟨.type "function", none, .func (dF "seat_count" "seat_count" (topS 60) 3 [] (.none) (.none) (.none) (.str "guestseats.carriers" 869) (none) (.ref 450) (.none) 0), dN⟩,
  ⟨.type "tuple", none, .seq (dA []) 0, dN⟩,
  ⟨.none, none, .fields (dA []), dN⟩,
  ⟨.type "tuple", none, .seq (dA [.str "standing" 914, .str "seat" 915, .str "_" 916]) 0, dN⟩,
  ⟨.type "tuple", none, .seq (dA []) 0, dN⟩,
  ⟨.none, none, .func (dF "has_guest" "has_guest" (topS 61) 0 [] (.none) (.none) (.none) (.none) (none) (.none) (.none) 0), dN⟩,
  ⟨.type "code", none, .fields (dA [.str "has_guest" 911, .str "has_guest" 912, .str "/claim/cut.py" 913, .int 200 0, .int 2 0, .int 0 0, .int 0 0, .int 3 0, .ref 452, .bool true, .int 374 0, .ref 453, .none, .ref 454, .ref 455, .ref 456, .int 917 0, .int 200 0, .str "/claim/cut.py" 918]), dN⟩,
  ⟨.type "function", none, .func (dF "has_guest" "has_guest" (topS 61) 3 [] (.none) (.none) (.none) (.str "guestseats.carriers" 869) (none) (.ref 457) (.none) 0), dN⟩,
  ⟨.type "tuple", none, .seq (dA []) 0, dN⟩,
  ⟨.none, none, .fields (dA []), dN⟩,
  ⟨.none, none, .func (dF "with_seats" "with_seats" (topS 62) 0 [] (.none) (.none) (.none) (.none) (none) (.none) (.none) 0), dN⟩,
  ⟨.type "code", none, .fields (dA [.str "with_seats" 920, .str "with_seats" 921, .str "/claim/cut.py" 922, .int 204 0, .int 2 0, .int 0 0, .int 0 0, .int 3 0, .ref 459, .bool true, .int 374 0, .ref 460, .none, .none, .none, .ref 461, .int 923 0, .int 204 0, .str "/claim/cut.py" 924]), dN⟩,
  ⟨.type "function", none, .func (dF "with_seats" "with_seats" (topS 62) 3 [] (.none) (.none) (.none) (.str "guestseats.carriers" 869) (none) (.ref 462) (.none) 0), dN⟩,
  ⟨.type "tuple", none, .seq (dA []) 0, dN⟩,
  ⟨.none, none, .fields (dA []), dN⟩,
  ⟨.type "tuple", none, .seq (dA [.str "carrier" 929, .str "standings" 930, .str "found" 931, .str "standing" 932, .str "many" 933]) 0, dN⟩,
  ⟨.type "tuple", none, .seq (dA []) 0, dN⟩,
  ⟨.none, none, .func (dF "counts_in" "counts_in" (topS 63) 0 [] (.none) (.none) (.none) (.none) (none) (.none) (.none) 0), dN⟩,
  ⟨.type "code", none, .fields (dA [.str "counts_in" 926, .str "counts_in" 927, .str "/claim/cut.py" 928, .int 206 0, .int 2 0, .int 0 0, .int 0 0, .int 3 0, .ref 464, .bool true, .int 374 0, .ref 465, .none, .ref 466, .ref 467, .ref 468, .int 934 0, .int 206 0, .str "/claim/cut.py" 935]), dN⟩,
  ⟨.type "function", none, .func (dF "counts_in" "counts_in" (topS 63) 3 [] (.none) (.none) (.none) (.str "guestseats.carriers" 869) (none) (.ref 469) (.none) 0), dN⟩,
  ⟨.type "tuple", none, .seq (dA []) 0, dN⟩,
  ⟨.none, none, .fields (dA []), dN⟩,
  ⟨.type "tuple", none, .seq (dA [.str "carrier" 940]) 0, dN⟩,
  ⟨.type "tuple", none, .seq (dA []) 0, dN⟩,
  ⟨.none, none, .func (dF "counts_by" "counts_by" (topS 64) 0 [] (.none) (.none) (.none) (.none) (none) (.none) (.none) 0), dN⟩,
  ⟨.type "code", none, .fields (dA [.str "counts_by" 937, .str "counts_by" 938, .str "/claim/cut.py" 939, .int 212 0, .int 1 0, .int 0 0, .int 0 0, .int 3 0, .ref 471, .bool true, .int 374 0, .ref 472, .none, .ref 473, .ref 474, .ref 475, .int 941 0, .int 212 0, .str "/claim/cut.py" 942]), dN⟩,
  ⟨.type "function", none, .func (dF "counts_by" "counts_by" (topS 64) 3 [] (.none) (.none) (.none) (.str "guestseats.carriers" 869) (none) (.ref 476) (.none) 0), dN⟩,
  ⟨.type "tuple", none, .seq (dA []) 0, dN⟩]
def ob4_2 (P : Params) : List Obj := [
  ⟨.none, none, .fields (dA []), dN⟩,
  ⟨.none, none, .func (dF "split_by" "split_by" (topS 65) 0 [] (.none) (.none) (.none) (.none) (none) (.none) (.none) 0), dN⟩,
  ⟨.type "code", none, .fields (dA [.str "split_by" 944, .str "split_by" 945, .str "/claim/cut.py" 946, .int 214 0, .int 2 0, .int 0 0, .int 0 0, .int 3 0, .ref 478, .bool true, .int 374 0, .ref 479, .none, .none, .none, .ref 480, .int 947 0, .int 214 0, .str "/claim/cut.py" 948]), dN⟩,
  ⟨.type "function", none, .func (dF "split_by" "split_by" (topS 65) 3 [] (.none) (.none) (.none) (.str "guestseats.carriers" 869) (none) (.ref 481) (.none) 0), dN⟩,
  ⟨.type "tuple", none, .seq (dA []) 0, dN⟩,
  ⟨.none, none, .fields (dA []), dN⟩,
  ⟨.type "tuple", none, .seq (dA [.str "row" 953, .str "strength" 954, .str "found" 955, .str "factor" 956, .str "each" 957]) 0, dN⟩,
  ⟨.type "tuple", none, .seq (dA []) 0, dN⟩,
  ⟨.none, none, .func (dF "terms_at" "terms_at" (topS 66) 0 [] (.none) (.none) (.none) (.none) (none) (.none) (.none) 0), dN⟩,
  ⟨.type "code", none, .fields (dA [.str "terms_at" 950, .str "terms_at" 951, .str "/claim/cut.py" 952, .int 218 0, .int 2 0, .int 0 0, .int 0 0, .int 3 0, .ref 483, .bool true, .int 374 0, .ref 484, .none, .ref 485, .ref 486, .ref 487, .int 958 0, .int 218 0, .str "/claim/cut.py" 959]), dN⟩,
  ⟨.type "function", none, .func (dF "terms_at" "terms_at" (topS 66) 3 [] (.none) (.none) (.none) (.str "guestseats.carriers" 869) (none) (.ref 488) (.none) 0), dN⟩,
  ⟨.type "tuple", none, .seq (dA []) 0, dN⟩,
  ⟨.none, none, .fields (dA []), dN⟩,
  ⟨.type "tuple", none, .seq (dA [.str "row" 964, .str "strength" 965]) 0, dN⟩,
  ⟨.type "tuple", none, .seq (dA []) 0, dN⟩,
  ⟨.none, none, .func (dF "row_at" "row_at" (topS 67) 0 [] (.none) (.none) (.none) (.none) (none) (.none) (.none) 0), dN⟩,
  ⟨.type "code", none, .fields (dA [.str "row_at" 961, .str "row_at" 962, .str "/claim/cut.py" 963, .int 224 0, .int 2 0, .int 0 0, .int 0 0, .int 3 0, .ref 490, .bool true, .int 374 0, .ref 491, .none, .ref 492, .ref 493, .ref 494, .int 966 0, .int 224 0, .str "/claim/cut.py" 967]), dN⟩,
  ⟨.type "function", none, .func (dF "row_at" "row_at" (topS 67) 3 [] (.none) (.none) (.none) (.str "guestseats.carriers" 869) (none) (.ref 495) (.none) 0), dN⟩,
  ⟨.type "tuple", none, .seq (dA []) 0, dN⟩,
  ⟨.none, none, .fields (dA []), dN⟩,
  ⟨.none, none, .func (dF "mean_of" "mean_of" (topS 68) 0 [] (.none) (.none) (.none) (.none) (none) (.none) (.none) 0), dN⟩,
  ⟨.type "code", none, .fields (dA [.str "mean_of" 969, .str "mean_of" 970, .str "/claim/cut.py" 971, .int 226 0, .int 2 0, .int 0 0, .int 0 0, .int 3 0, .ref 497, .bool true, .int 374 0, .ref 498, .none, .none, .none, .ref 499, .int 972 0, .int 226 0, .str "/claim/cut.py" 973]), dN⟩,
  ⟨.type "function", none, .func (dF "mean_of" "mean_of" (topS 68) 3 [] (.none) (.none) (.none) (.str "guestseats.carriers" 869) (none) (.ref 500) (.none) 0), dN⟩,
  ⟨.type "tuple", none, .seq (dA []) 0, dN⟩,
  ⟨.none, none, .fields (dA []), dN⟩,
  ⟨.type "tuple", none, .seq (dA [.str "carrier" 980, .str "seat" 981, .str "empty" 982, .str "taken" 983, .str "bend" 984]) 0, dN⟩,
  ⟨.type "tuple", none, .seq (dA []) 0, dN⟩,
  ⟨.none, none, .func (dF "rising_of" "rising_of" (topS 70) 0 [] (.none) (.none) (.none) (.none) (none) (.none) (.none) 0), dN⟩,
  ⟨.type "code", none, .fields (dA [.str "rising_of" 977, .str "rising_of" 978, .str "/claim/cut.py" 979, .int 230 0, .int 2 0, .int 0 0, .int 0 0, .int 3 0, .ref 502, .bool true, .int 374 0, .ref 503, .none, .ref 504, .ref 505, .ref 506, .int 985 0, .int 230 0, .str "/claim/cut.py" 986]), dN⟩,
  ⟨.type "function", none, .func (dF "rising_of" "rising_of" (topS 70) 3 [] (.none) (.none) (.none) (.str "guestseats.seats" 975) (none) (.ref 507) (.none) 0), dN⟩,
  ⟨.type "tuple", none, .seq (dA []) 0, dN⟩,
  ⟨.none, none, .fields (dA []), dN⟩,
  ⟨.type "tuple", none, .seq (dA [.str "seat" 993, .str "found" 994, .str "_" 995]) 0, dN⟩,
  ⟨.type "tuple", none, .seq (dA []) 0, dN⟩,
  ⟨.none, none, .func (dF "bit_of" "bit_of" (topS 72) 0 [] (.none) (.none) (.none) (.none) (none) (.none) (.none) 0), dN⟩,
  ⟨.type "code", none, .fields (dA [.str "bit_of" 990, .str "bit_of" 991, .str "/claim/cut.py" 992, .int 235 0, .int 1 0, .int 0 0, .int 0 0, .int 3 0, .ref 509, .bool true, .int 374 0, .ref 510, .none, .ref 511, .ref 512, .ref 513, .int 996 0, .int 235 0, .str "/claim/cut.py" 997]), dN⟩,
  ⟨.type "function", none, .func (dF "bit_of" "bit_of" (topS 72) 3 [] (.none) (.none) (.none) (.str "guestseats.links" 988) (none) (.ref 514) (.none) 0), dN⟩,
  ⟨.type "tuple", none, .seq (dA []) 0, dN⟩,
  ⟨.none, none, .fields (dA []), dN⟩,
  ⟨.type "tuple", none, .seq (dA [.str "standing" 1002, .str "seat" 1003, .str "other" 1004]) 0, dN⟩]
def ob4_3 (P : Params) : List Obj := [
  ⟨.type "tuple", none, .seq (dA []) 0, dN⟩,
  ⟨.none, none, .func (dF "is_free" "is_free" (topS 73) 0 [] (.none) (.none) (.none) (.none) (none) (.none) (.none) 0), dN⟩,
  ⟨.type "code", none, .fields (dA [.str "is_free" 999, .str "is_free" 1000, .str "/claim/cut.py" 1001, .int 240 0, .int 3 0, .int 0 0, .int 0 0, .int 3 0, .ref 516, .bool true, .int 374 0, .ref 517, .none, .ref 518, .ref 519, .ref 520, .int 1005 0, .int 240 0, .str "/claim/cut.py" 1006]), dN⟩,
  ⟨.type "function", none, .func (dF "is_free" "is_free" (topS 73) 3 [] (.none) (.none) (.none) (.str "guestseats.links" 988) (none) (.ref 521) (.none) 0), dN⟩,
  ⟨.type "tuple", none, .seq (dA []) 0, dN⟩,
  ⟨.none, none, .fields (dA []), dN⟩,
  ⟨.none, none, .func (dF "free_standings" "free_standings" (topS 74) 0 [] (.none) (.none) (.none) (.none) (none) (.none) (.none) 0), dN⟩,
  ⟨.type "code", none, .fields (dA [.str "free_standings" 1008, .str "free_standings" 1009, .str "/claim/cut.py" 1010, .int 242 0, .int 3 0, .int 0 0, .int 0 0, .int 3 0, .ref 523, .bool true, .int 374 0, .ref 524, .none, .none, .none, .ref 525, .int 1011 0, .int 242 0, .str "/claim/cut.py" 1012]), dN⟩,
  ⟨.type "function", none, .func (dF "free_standings" "free_standings" (topS 74) 3 [] (.none) (.none) (.none) (.str "guestseats.links" 988) (none) (.ref 526) (.none) 0), dN⟩,
  ⟨.type "tuple", none, .seq (dA []) 0, dN⟩,
  ⟨.none, none, .fields (dA []), dN⟩,
  ⟨.type "tuple", none, .seq (dA [.str "carrier" 1017, .str "seat" 1018, .str "other" 1019, .str "standing" 1020, .str "one" 1021, .str "two" 1022, .str "both" 1023]) 0, dN⟩,
  ⟨.type "tuple", none, .seq (dA []) 0, dN⟩,
  ⟨.none, none, .func (dF "link_over" "link_over" (topS 75) 0 [] (.none) (.none) (.none) (.none) (none) (.none) (.none) 0), dN⟩,
  ⟨.type "code", none, .fields (dA [.str "link_over" 1014, .str "link_over" 1015, .str "/claim/cut.py" 1016, .int 244 0, .int 4 0, .int 0 0, .int 0 0, .int 3 0, .ref 528, .bool true, .int 374 0, .ref 529, .none, .ref 530, .ref 531, .ref 532, .int 1024 0, .int 244 0, .str "/claim/cut.py" 1025]), dN⟩,
  ⟨.type "function", none, .func (dF "link_over" "link_over" (topS 75) 3 [] (.none) (.none) (.none) (.str "guestseats.links" 988) (none) (.ref 533) (.none) 0), dN⟩,
  ⟨.type "tuple", none, .seq (dA []) 0, dN⟩,
  ⟨.none, none, .fields (dA []), dN⟩,
  ⟨.none, none, .func (dF "seat_pairs" "seat_pairs" (topS 76) 0 [] (.none) (.none) (.none) (.none) (none) (.none) (.none) 0), dN⟩,
  ⟨.type "code", none, .fields (dA [.str "seat_pairs" 1027, .str "seat_pairs" 1028, .str "/claim/cut.py" 1029, .int 248 0, .int 1 0, .int 0 0, .int 0 0, .int 3 0, .ref 535, .bool true, .int 374 0, .ref 536, .none, .none, .none, .ref 537, .int 1030 0, .int 248 0, .str "/claim/cut.py" 1031]), dN⟩,
  ⟨.type "function", none, .func (dF "seat_pairs" "seat_pairs" (topS 76) 3 [] (.none) (.none) (.none) (.str "guestseats.links" 988) (none) (.ref 538) (.none) 0), dN⟩,
  ⟨.type "tuple", none, .seq (dA []) 0, dN⟩,
  ⟨.none, none, .fields (dA []), dN⟩,
  ⟨.none, none, .func (dF "all_links" "all_links" (topS 77) 0 [] (.none) (.none) (.none) (.none) (none) (.none) (.none) 0), dN⟩,
  ⟨.type "code", none, .fields (dA [.str "all_links" 1033, .str "all_links" 1034, .str "/claim/cut.py" 1035, .int 251 0, .int 1 0, .int 0 0, .int 0 0, .int 3 0, .ref 540, .bool true, .int 374 0, .ref 541, .none, .none, .none, .ref 542, .int 1036 0, .int 251 0, .str "/claim/cut.py" 1037]), dN⟩,
  ⟨.type "function", none, .func (dF "all_links" "all_links" (topS 77) 3 [] (.none) (.none) (.none) (.str "guestseats.links" 988) (none) (.ref 543) (.none) 0), dN⟩,
  ⟨.type "tuple", none, .seq (dA []) 0, dN⟩,
  ⟨.none, none, .fields (dA []), dN⟩,
  ⟨.type "tuple", none, .seq (dA [.str "carrier" 1044, .str "strengths" 1045, .str "found" 1046, .str "standing" 1047, .str "weight" 1048, .str "seat" 1049, .str "strength" 1050]) 0, dN⟩,
  ⟨.type "tuple", none, .seq (dA []) 0, dN⟩,
  ⟨.none, none, .func (dF "weights_at" "weights_at" (topS 79) 0 [] (.none) (.none) (.none) (.none) (none) (.none) (.none) 0), dN⟩,
  ⟨.type "code", none, .fields (dA [.str "weights_at" 1041, .str "weights_at" 1042, .str "/claim/cut.py" 1043, .int 257 0, .int 2 0, .int 0 0, .int 0 0, .int 3 0, .ref 545, .bool true, .int 374 0, .ref 546, .none, .ref 547, .ref 548, .ref 549, .int 1051 0, .int 257 0, .str "/claim/cut.py" 1052]), dN⟩,
  ⟨.type "function", none, .func (dF "weights_at" "weights_at" (topS 79) 3 [] (.none) (.none) (.none) (.str "guestseats.own" 1039) (none) (.ref 550) (.none) 0), dN⟩,
  ⟨.type "tuple", none, .seq (dA []) 0, dN⟩,
  ⟨.none, none, .fields (dA []), dN⟩,
  ⟨.none, none, .func (dF "share_of" "share_of" (topS 80) 0 [] (.none) (.none) (.none) (.none) (none) (.none) (.none) 0), dN⟩,
  ⟨.type "code", none, .fields (dA [.str "share_of" 1054, .str "share_of" 1055, .str "/claim/cut.py" 1056, .int 264 0, .int 2 0, .int 0 0, .int 0 0, .int 3 0, .ref 552, .bool true, .int 374 0, .ref 553, .none, .none, .none, .ref 554, .int 1057 0, .int 264 0, .str "/claim/cut.py" 1058]), dN⟩,
  ⟨.type "function", none, .func (dF "share_of" "share_of" (topS 80) 3 [] (.none) (.none) (.none) (.str "guestseats.own" 1039) (none) (.ref 555) (.none) 0), dN⟩,
  ⟨.type "tuple", none, .seq (dA []) 0, dN⟩,
  ⟨.none, none, .fields (dA []), dN⟩]
def ob4_4 (P : Params) : List Obj := [
  ⟨.type "tuple", none, .seq (dA [.str "carrier" 1063, .str "strengths" 1064, .str "seat" 1065, .str "other" 1066, .str "weights" 1067, .str "both" 1068, .str "mine" 1069, .str "its" 1070]) 0, dN⟩,
  ⟨.type "tuple", none, .seq (dA []) 0, dN⟩,
  ⟨.none, none, .func (dF "pull_of" "pull_of" (topS 81) 0 [] (.none) (.none) (.none) (.none) (none) (.none) (.none) 0), dN⟩,
  ⟨.type "code", none, .fields (dA [.str "pull_of" 1060, .str "pull_of" 1061, .str "/claim/cut.py" 1062, .int 266 0, .int 4 0, .int 0 0, .int 0 0, .int 3 0, .ref 557, .bool true, .int 374 0, .ref 558, .none, .ref 559, .ref 560, .ref 561, .int 1071 0, .int 266 0, .str "/claim/cut.py" 1072]), dN⟩,
  ⟨.type "function", none, .func (dF "pull_of" "pull_of" (topS 81) 3 [] (.none) (.none) (.none) (.str "guestseats.own" 1039) (none) (.ref 562) (.none) 0), dN⟩,
  ⟨.type "tuple", none, .seq (dA []) 0, dN⟩,
  ⟨.none, none, .fields (dA []), dN⟩,
  ⟨.type "tuple", none, .seq (dA [.str "carrier" 1077, .str "seat" 1078, .str "other" 1079, .str "standing" 1080]) 0, dN⟩,
  ⟨.type "tuple", none, .seq (dA []) 0, dN⟩,
  ⟨.none, none, .func (dF "shunned_link" "shunned_link" (topS 82) 0 [] (.none) (.none) (.none) (.none) (none) (.none) (.none) 0), dN⟩,
  ⟨.type "code", none, .fields (dA [.str "shunned_link" 1074, .str "shunned_link" 1075, .str "/claim/cut.py" 1076, .int 271 0, .int 1 0, .int 0 0, .int 0 0, .int 3 0, .ref 564, .bool true, .int 374 0, .ref 565, .none, .ref 566, .ref 567, .ref 568, .int 1081 0, .int 271 0, .str "/claim/cut.py" 1082]), dN⟩,
  ⟨.type "function", none, .func (dF "shunned_link" "shunned_link" (topS 82) 3 [] (.none) (.none) (.none) (.str "guestseats.own" 1039) (none) (.ref 569) (.none) 0), dN⟩,
  ⟨.type "tuple", none, .seq (dA []) 0, dN⟩,
  ⟨.none, none, .fields (dA []), dN⟩,
  ⟨.type "tuple", none, .seq (dA [.str "carrier" 1087, .str "pair" 1088, .str "standing" 1089, .str "size" 1090, .str "found" 1091, .str "at" 1092, .str "plain" 1093]) 0, dN⟩,
  ⟨.type "tuple", none, .seq (dA []) 0, dN⟩,
  ⟨.none, none, .func (dF "leaning_strengths" "leaning_strengths" (topS 83) 0 [] (.none) (.none) (.none) (.none) (none) (.none) (.none) 0), dN⟩,
  ⟨.type "code", none, .fields (dA [.str "leaning_strengths" 1084, .str "leaning_strengths" 1085, .str "/claim/cut.py" 1086, .int 277 0, .int 4 0, .int 0 0, .int 0 0, .int 3 0, .ref 571, .bool true, .int 374 0, .ref 572, .none, .ref 573, .ref 574, .ref 575, .int 1094 0, .int 277 0, .str "/claim/cut.py" 1095]), dN⟩,
  ⟨.type "function", none, .func (dF "leaning_strengths" "leaning_strengths" (topS 83) 3 [] (.none) (.none) (.none) (.str "guestseats.own" 1039) (none) (.ref 576) (.none) 0), dN⟩,
  ⟨.type "tuple", none, .seq (dA []) 0, dN⟩,
  ⟨.none, none, .fields (dA []), dN⟩,
  ⟨.type "tuple", none, .seq (dA [.str "carrier" 1100, .str "found" 1101, .str "seat" 1102, .str "other" 1103, .str "standing" 1104, .str "size" 1105, .str "strengths" 1106]) 0, dN⟩,
  ⟨.type "tuple", none, .seq (dA []) 0, dN⟩,
  ⟨.none, none, .func (dF "lowering" "lowering" (topS 84) 0 [] (.none) (.none) (.none) (.none) (none) (.none) (.none) 0), dN⟩,
  ⟨.type "code", none, .fields (dA [.str "lowering" 1097, .str "lowering" 1098, .str "/claim/cut.py" 1099, .int 283 0, .int 1 0, .int 0 0, .int 0 0, .int 3 0, .ref 578, .bool true, .int 374 0, .ref 579, .none, .ref 580, .ref 581, .ref 582, .int 1107 0, .int 283 0, .str "/claim/cut.py" 1108]), dN⟩,
  ⟨.type "function", none, .func (dF "lowering" "lowering" (topS 84) 3 [] (.none) (.none) (.none) (.str "guestseats.own" 1039) (none) (.ref 583) (.none) 0), dN⟩,
  ⟨.type "tuple", none, .seq (dA []) 0, dN⟩,
  ⟨.none, none, .fields (dA []), dN⟩,
  ⟨.type "tuple", none, .seq (dA [.str "carrier" 1115, .str "other" 1116, .str "mine" 1117, .str "its" 1118]) 0, dN⟩,
  ⟨.type "tuple", none, .seq (dA []) 0, dN⟩,
  ⟨.none, none, .func (dF "fill_gap" "fill_gap" (topS 86) 0 [] (.none) (.none) (.none) (.none) (none) (.none) (.none) 0), dN⟩,
  ⟨.type "code", none, .fields (dA [.str "fill_gap" 1112, .str "fill_gap" 1113, .str "/claim/cut.py" 1114, .int 296 0, .int 2 0, .int 0 0, .int 0 0, .int 3 0, .ref 585, .bool true, .int 374 0, .ref 586, .none, .ref 587, .ref 588, .ref 589, .int 1119 0, .int 296 0, .str "/claim/cut.py" 1120]), dN⟩,
  ⟨.type "function", none, .func (dF "fill_gap" "fill_gap" (topS 86) 3 [] (.none) (.none) (.none) (.str "guestseats.compared" 1110) (none) (.ref 590) (.none) 0), dN⟩,
  ⟨.type "tuple", none, .seq (dA []) 0, dN⟩,
  ⟨.none, none, .fields (dA []), dN⟩,
  ⟨.type "tuple", none, .seq (dA [.str "row" 1127, .str "number" 1128, .str "low" 1129, .str "high" 1130, .str "mine" 1131]) 0, dN⟩,
  ⟨.type "tuple", none, .seq (dA []) 0, dN⟩,
  ⟨.none, none, .func (dF "bars" "bars" (topS 88) 0 [] (.none) (.none) (.none) (.none) (none) (.none) (.none) 0), dN⟩,
  ⟨.type "code", none, .fields (dA [.str "bars" 1124, .str "bars" 1125, .str "/claim/cut.py" 1126, .int 300 0, .int 4 0, .int 0 0, .int 0 0, .int 3 0, .ref 592, .bool true, .int 374 0, .ref 593, .none, .ref 594, .ref 595, .ref 596, .int 1132 0, .int 300 0, .str "/claim/cut.py" 1133]), dN⟩,
  ⟨.type "function", none, .func (dF "bars" "bars" (topS 88) 3 [] (.none) (.none) (.none) (.str "guestseats.fills" 1122) (none) (.ref 597) (.none) 0), dN⟩]
def ob4_5 (P : Params) : List Obj := [
  ⟨.type "tuple", none, .seq (dA []) 0, dN⟩,
  ⟨.none, none, .fields (dA []), dN⟩,
  ⟨.type "tuple", none, .seq (dA [.str "row" 1138, .str "number" 1139, .str "low" 1140, .str "high" 1141]) 0, dN⟩,
  ⟨.type "tuple", none, .seq (dA []) 0, dN⟩,
  ⟨.none, none, .func (dF "barring" "barring" (topS 89) 0 [] (.none) (.none) (.none) (.none) (none) (.none) (.none) 0), dN⟩,
  ⟨.type "code", none, .fields (dA [.str "barring" 1135, .str "barring" 1136, .str "/claim/cut.py" 1137, .int 303 0, .int 2 0, .int 0 0, .int 0 0, .int 3 0, .ref 599, .bool true, .int 374 0, .ref 600, .none, .ref 601, .ref 602, .ref 603, .int 1142 0, .int 303 0, .str "/claim/cut.py" 1143]), dN⟩,
  ⟨.type "function", none, .func (dF "barring" "barring" (topS 89) 3 [] (.none) (.none) (.none) (.str "guestseats.fills" 1122) (none) (.ref 604) (.none) 0), dN⟩]
def ob4 (P : Params) : List Obj := ob4_0 P ++ ob4_1 P ++ ob4_2 P ++ ob4_3 P ++ ob4_4 P ++ ob4_5 P
def ch4 (P : Params) : List (Nat × Obj) := [
  (3, ⟨.type "dict", none, .dict (dB [dE P "__name__" 165 (.str "guestseats.baths" 1145), dE P "__doc__" 166 (.none), dE P "__package__" 167 (.none), dE P "__loader__" 168 (.builtin "__main__.__loader__#opaque"), dE P "__spec__" 169 (.none), dE P "__annotations__" 170 (.ref 6), dE P "__builtins__" 171 (.ref 4), dE P "__file__" 173 (.str "/claim/cut.py" 172), dE P "__cached__" 174 (.none), dE P "gcd" 370 (.builtin "math.gcd"), dE P "lcm" 373 (.builtin "math.lcm"), dE P "SeatError" 399 (.ref 52), dE P "InvalidStrength" 424 (.ref 72), dE P "InvalidCarrier" 449 (.ref 91), dE P "InvalidNumber" 474 (.ref 110), dE P "InvalidBoard" 499 (.ref 129), dE P "InvalidLooks" 524 (.ref 148), dE P "is_whole" 533 (.ref 157), dE P "is_between" 542 (.ref 164), dE P "are_wholes" 548 (.ref 169), dE P "divisor_of" 557 (.ref 176), dE P "lowest" 563 (.ref 181), dE P "sign_of" 570 (.ref 188), dE P "bits_in" 578 (.ref 195), dE P "ZERO" 583 (.ref 196), dE P "ONE" 586 (.ref 197), dE P "is_ratio" 593 (.ref 204), dE P "ratio" 601 (.ref 211), dE P "plus" 609 (.ref 218), dE P "minus" 617 (.ref 225), dE P "times" 625 (.ref 232), dE P "over" 633 (.ref 239), dE P "power" 644 (.ref 246), dE P "total_of" 653 (.ref 253), dE P "is_below" 661 (.ref 260), dE P "side_of_two" 669 (.ref 267), dE P "common_low" 678 (.ref 274), dE P "made_whole" 684 (.ref 279), dE P "trimmed" 694 (.ref 286), dE P "poly_plus" 700 (.ref 291), dE P "poly_scaled" 706 (.ref 296), dE P "poly_minus" 714 (.ref 303), dE P "poly_times" 727 (.ref 310), dE P "poly_up" 735 (.ref 317), dE P "slope_of" 741 (.ref 322), dE P "formed" 748 (.ref 329), dE P "polys_of" 754 (.ref 334), dE P "number_at" 765 (.ref 341), dE P "sign_at" 773 (.ref 348), dE P "divided" 779 (.ref 353), dE P "common_part" 787 (.ref 360), dE P "single_roots" 795 (.ref 367), dE P "without_nought" 803 (.ref 374), dE P "chain_of" 813 (.ref 381), dE P "changes_at" 819 (.ref 386), dE P "bounds_of" 825 (.ref 391), dE P "parting" 835 (.ref 398), dE P "spans_of" 853 (.ref 405), dE P "looks_of" 859 (.ref 410), dE P "row_of" 868 (.ref 417), dE P "SIZES" 876 (.ref 418), dE P "is_amount" 883 (.ref 425), dE P "is_carrier" 889 (.ref 430), dE P "check_carrier" 896 (.ref 437), dE P "check_strength" 903 (.ref 444), dE P "seat_count" 910 (.ref 451), dE P "has_guest" 919 (.ref 458), dE P "with_seats" 925 (.ref 463), dE P "counts_in" 936 (.ref 470), dE P "counts_by" 943 (.ref 477), dE P "split_by" 949 (.ref 482), dE P "terms_at" 960 (.ref 489), dE P "row_at" 968 (.ref 496), dE P "mean_of" 974 (.ref 501), dE P "rising_of" 987 (.ref 508), dE P "bit_of" 998 (.ref 515), dE P "is_free" 1007 (.ref 522), dE P "free_standings" 1013 (.ref 527), dE P "link_over" 1026 (.ref 534), dE P "seat_pairs" 1032 (.ref 539), dE P "all_links" 1038 (.ref 544), dE P "weights_at" 1053 (.ref 551), dE P "share_of" 1059 (.ref 556), dE P "pull_of" 1073 (.ref 563), dE P "shunned_link" 1083 (.ref 570), dE P "leaning_strengths" 1096 (.ref 577), dE P "lowering" 1109 (.ref 584), dE P "fill_gap" 1121 (.ref 591), dE P "bars" 1134 (.ref 598), dE P "barring" 1144 (.ref 605)]) 90, dN⟩),
  (40, ⟨.none, none, .fields (dA [.int 3 0, .int 0 0, .ref 48, .int 5 0, .int 0 0, .ref 61, .int 9 0, .int 0 0, .ref 80, .int 13 0, .int 0 0, .ref 99, .int 17 0, .int 0 0, .ref 118, .int 21 0, .int 0 0, .ref 137, .int 26 0, .int 0 0, .ref 156, .int 28 0, .int 0 0, .ref 163, .int 30 0, .int 0 0, .ref 168, .int 32 0, .int 0 0, .ref 175, .int 37 0, .int 0 0, .ref 180, .int 40 0, .int 0 0, .ref 187, .int 42 0, .int 0 0, .ref 194, .int 50 0, .int 0 0, .ref 203, .int 52 0, .int 0 0, .ref 210, .int 54 0, .int 0 0, .ref 217, .int 56 0, .int 0 0, .ref 224, .int 58 0, .int 0 0, .ref 231, .int 60 0, .int 0 0, .ref 238, .int 62 0, .int 0 0, .ref 245, .int 67 0, .int 0 0, .ref 252, .int 72 0, .int 0 0, .ref 259, .int 74 0, .int 0 0, .ref 266, .int 76 0, .int 0 0, .ref 273, .int 81 0, .int 0 0, .ref 278, .int 84 0, .int 0 0, .ref 285, .int 89 0, .int 0 0, .ref 290, .int 93 0, .int 0 0, .ref 295, .int 95 0, .int 0 0, .ref 302, .int 97 0, .int 0 0, .ref 309, .int 103 0, .int 0 0, .ref 316, .int 105 0, .int 0 0, .ref 321, .int 107 0, .int 0 0, .ref 328, .int 109 0, .int 0 0, .ref 333, .int 112 0, .int 0 0, .ref 340, .int 117 0, .int 0 0, .ref 347, .int 119 0, .int 0 0, .ref 352, .int 127 0, .int 0 0, .ref 359, .int 131 0, .int 0 0, .ref 366, .int 134 0, .int 0 0, .ref 373, .int 139 0, .int 0 0, .ref 380, .int 145 0, .int 0 0, .ref 385, .int 148 0, .int 0 0, .ref 390, .int 151 0, .int 0 0, .ref 397, .int 156 0, .int 0 0, .ref 404, .int 170 0, .int 0 0, .ref 409, .int 175 0, .int 0 0, .ref 416, .int 186 0, .int 0 0, .ref 424, .int 188 0, .int 0 0, .ref 429, .int 192 0, .int 0 0, .ref 436, .int 195 0, .int 0 0, .ref 443, .int 198 0, .int 0 0, .ref 450, .int 200 0, .int 0 0, .ref 457, .int 204 0, .int 0 0, .ref 462, .int 206 0, .int 0 0, .ref 469, .int 212 0, .int 0 0, .ref 476, .int 214 0, .int 0 0, .ref 481, .int 218 0, .int 0 0, .ref 488, .int 224 0, .int 0 0, .ref 495, .int 226 0, .int 0 0, .ref 500, .int 230 0, .int 0 0, .ref 507, .int 235 0, .int 0 0, .ref 514, .int 240 0, .int 0 0, .ref 521, .int 242 0, .int 0 0, .ref 526, .int 244 0, .int 0 0, .ref 533, .int 248 0, .int 0 0, .ref 538, .int 251 0, .int 0 0, .ref 543, .int 257 0, .int 0 0, .ref 550, .int 264 0, .int 0 0, .ref 555, .int 266 0, .int 0 0, .ref 562, .int 271 0, .int 0 0, .ref 569, .int 277 0, .int 0 0, .ref 576, .int 283 0, .int 0 0, .ref 583, .int 296 0, .int 0 0, .ref 590, .int 300 0, .int 0 0, .ref 597, .int 303 0, .int 0 0, .ref 604]), dN⟩)]
def tr4 (P : Params) : PySem.W.BT := setAll (ch4 P) (insAll (ob4 P) (tr3 P) 399)
def st4 (w : World) (os : OsState) : PySem.W.SharedT := ⟨tr4 w.params, 606, {}, Array.mk [], {}, 1147, os⟩
def ob5_0 (P : Params) : List Obj := [
  ⟨.type "tuple", none, .seq (dA []) 0, dN⟩,
  ⟨.none, none, .fields (dA []), dN⟩,
  ⟨.type "tuple", none, .seq (dA [.str "value" 1154]) 0, dN⟩,
  ⟨.type "tuple", none, .seq (dA []) 0, dN⟩,
  ⟨.none, none, .func (dF "is_pair" "is_pair" (topS 93) 0 [] (.none) (.none) (.none) (.none) (none) (.none) (.none) 0), dN⟩,
  ⟨.type "code", none, .fields (dA [.str "is_pair" 1151, .str "is_pair" 1152, .str "/claim/cut.py" 1153, .int 312 0, .int 1 0, .int 0 0, .int 0 0, .int 3 0, .ref 606, .bool true, .int 374 0, .ref 607, .none, .ref 608, .ref 609, .ref 610, .int 1155 0, .int 312 0, .str "/claim/cut.py" 1156]), dN⟩,
  ⟨.type "function", none, .func (dF "is_pair" "is_pair" (topS 93) 3 [] (.none) (.none) (.none) (.str "guestseats.baths" 1145) (none) (.ref 611) (.none) 0), dN⟩,
  ⟨.type "tuple", none, .seq (dA []) 0, dN⟩,
  ⟨.none, none, .fields (dA []), dN⟩,
  ⟨.type "tuple", none, .seq (dA [.str "value" 1161, .str "seats" 1162, .str "at" 1163, .str "pair" 1164]) 0, dN⟩,
  ⟨.type "tuple", none, .seq (dA []) 0, dN⟩,
  ⟨.none, none, .func (dF "wrong_pair" "wrong_pair" (topS 94) 0 [] (.none) (.none) (.none) (.none) (none) (.none) (.none) 0), dN⟩,
  ⟨.type "code", none, .fields (dA [.str "wrong_pair" 1158, .str "wrong_pair" 1159, .str "/claim/cut.py" 1160, .int 314 0, .int 1 0, .int 0 0, .int 0 0, .int 3 0, .ref 613, .bool true, .int 374 0, .ref 614, .none, .ref 615, .ref 616, .ref 617, .int 1165 0, .int 314 0, .str "/claim/cut.py" 1166]), dN⟩,
  ⟨.type "function", none, .func (dF "wrong_pair" "wrong_pair" (topS 94) 3 [] (.none) (.none) (.none) (.str "guestseats.baths" 1145) (none) (.ref 618) (.none) 0), dN⟩,
  ⟨.type "tuple", none, .seq (dA []) 0, dN⟩,
  ⟨.none, none, .fields (dA []), dN⟩,
  ⟨.type "tuple", none, .seq (dA [.str "value" 1171]) 0, dN⟩,
  ⟨.type "tuple", none, .seq (dA []) 0, dN⟩,
  ⟨.none, none, .func (dF "is_bath" "is_bath" (topS 95) 0 [] (.none) (.none) (.none) (.none) (none) (.none) (.none) 0), dN⟩,
  ⟨.type "code", none, .fields (dA [.str "is_bath" 1168, .str "is_bath" 1169, .str "/claim/cut.py" 1170, .int 323 0, .int 1 0, .int 0 0, .int 0 0, .int 3 0, .ref 620, .bool true, .int 374 0, .ref 621, .none, .ref 622, .ref 623, .ref 624, .int 1172 0, .int 323 0, .str "/claim/cut.py" 1173]), dN⟩,
  ⟨.type "function", none, .func (dF "is_bath" "is_bath" (topS 95) 3 [] (.none) (.none) (.none) (.str "guestseats.baths" 1145) (none) (.ref 625) (.none) 0), dN⟩,
  ⟨.type "tuple", none, .seq (dA []) 0, dN⟩,
  ⟨.none, none, .fields (dA []), dN⟩,
  ⟨.none, none, .func (dF "bound_by" "bound_by" (topS 96) 0 [] (.none) (.none) (.none) (.none) (none) (.none) (.none) 0), dN⟩,
  ⟨.type "code", none, .fields (dA [.str "bound_by" 1175, .str "bound_by" 1176, .str "/claim/cut.py" 1177, .int 325 0, .int 2 0, .int 0 0, .int 0 0, .int 3 0, .ref 627, .bool true, .int 374 0, .ref 628, .none, .none, .none, .ref 629, .int 1178 0, .int 325 0, .str "/claim/cut.py" 1179]), dN⟩,
  ⟨.type "function", none, .func (dF "bound_by" "bound_by" (topS 96) 3 [] (.none) (.none) (.none) (.str "guestseats.baths" 1145) (none) (.ref 630) (.none) 0), dN⟩,
  ⟨.type "tuple", none, .seq (dA []) 0, dN⟩,
  ⟨.none, none, .fields (dA []), dN⟩,
  ⟨.type "tuple", none, .seq (dA [.str "bath" 1184, .str "amounts" 1185, .str "top" 1186, .str "low" 1187, .str "pair" 1188, .str "amount" 1189, .str "mine" 1190, .str "part" 1191]) 0, dN⟩,
  ⟨.type "tuple", none, .seq (dA []) 0, dN⟩,
  ⟨.none, none, .func (dF "bound_polys" "bound_polys" (topS 97) 0 [] (.none) (.none) (.none) (.none) (none) (.none) (.none) 0), dN⟩,
  ⟨.type "code", none, .fields (dA [.str "bound_polys" 1181, .str "bound_polys" 1182, .str "/claim/cut.py" 1183, .int 327 0, .int 2 0, .int 0 0, .int 0 0, .int 3 0, .ref 632, .bool true, .int 374 0, .ref 633, .none, .ref 634, .ref 635, .ref 636, .int 1192 0, .int 327 0, .str "/claim/cut.py" 1193]), dN⟩,
  ⟨.type "function", none, .func (dF "bound_polys" "bound_polys" (topS 97) 3 [] (.none) (.none) (.none) (.str "guestseats.baths" 1145) (none) (.ref 637) (.none) 0), dN⟩,
  ⟨.type "tuple", none, .seq (dA []) 0, dN⟩,
  ⟨.none, none, .fields (dA []), dN⟩,
  ⟨.none, none, .func (dF "bound_gap" "bound_gap" (topS 98) 0 [] (.none) (.none) (.none) (.none) (none) (.none) (.none) 0), dN⟩,
  ⟨.type "code", none, .fields (dA [.str "bound_gap" 1195, .str "bound_gap" 1196, .str "/claim/cut.py" 1197, .int 334 0, .int 2 0, .int 0 0, .int 0 0, .int 3 0, .ref 639, .bool true, .int 374 0, .ref 640, .none, .none, .none, .ref 641, .int 1198 0, .int 334 0, .str "/claim/cut.py" 1199]), dN⟩,
  ⟨.type "function", none, .func (dF "bound_gap" "bound_gap" (topS 98) 3 [] (.none) (.none) (.none) (.str "guestseats.baths" 1145) (none) (.ref 642) (.none) 0), dN⟩,
  ⟨.type "tuple", none, .seq (dA [.int 3 1203, .int 9 1204, .int 27 1205]) 0, dN⟩,
  ⟨.type "tuple", none, .seq (dA []) 0, dN⟩]
def ob5_1 (P : Params) : List Obj := [
  ⟨.none, none, .fields (dA []), dN⟩,
  ⟨.none, none, .func (dF "is_board" "is_board" (topS 103) 0 [] (.none) (.none) (.none) (.none) (none) (.none) (.none) 0), dN⟩,
  ⟨.type "code", none, .fields (dA [.str "is_board" 1211, .str "is_board" 1212, .str "/claim/cut.py" 1213, .int 344 0, .int 1 0, .int 0 0, .int 0 0, .int 3 0, .ref 645, .bool true, .int 374 0, .ref 646, .none, .none, .none, .ref 647, .int 1214 0, .int 344 0, .str "/claim/cut.py" 1215]), dN⟩,
  ⟨.type "function", none, .func (dF "is_board" "is_board" (topS 103) 3 [] (.none) (.none) (.none) (.str "guestseats.boards" 1201) (none) (.ref 648) (.none) 0), dN⟩,
  ⟨.type "tuple", none, .seq (dA []) 0, dN⟩,
  ⟨.none, none, .fields (dA []), dN⟩,
  ⟨.type "tuple", none, .seq (dA [.str "value" 1220]) 0, dN⟩,
  ⟨.type "tuple", none, .seq (dA []) 0, dN⟩,
  ⟨.none, none, .func (dF "check_board" "check_board" (topS 104) 0 [] (.none) (.none) (.none) (.none) (none) (.none) (.none) 0), dN⟩,
  ⟨.type "code", none, .fields (dA [.str "check_board" 1217, .str "check_board" 1218, .str "/claim/cut.py" 1219, .int 348 0, .int 1 0, .int 0 0, .int 0 0, .int 3 0, .ref 650, .bool true, .int 374 0, .ref 651, .none, .ref 652, .ref 653, .ref 654, .int 1221 0, .int 348 0, .str "/claim/cut.py" 1222]), dN⟩,
  ⟨.type "function", none, .func (dF "check_board" "check_board" (topS 104) 3 [] (.none) (.none) (.none) (.str "guestseats.boards" 1201) (none) (.ref 655) (.none) 0), dN⟩,
  ⟨.type "tuple", none, .seq (dA []) 0, dN⟩,
  ⟨.none, none, .fields (dA []), dN⟩,
  ⟨.type "tuple", none, .seq (dA [.str "board" 1227]) 0, dN⟩,
  ⟨.type "tuple", none, .seq (dA []) 0, dN⟩,
  ⟨.none, none, .func (dF "board_count" "board_count" (topS 105) 0 [] (.none) (.none) (.none) (.none) (none) (.none) (.none) 0), dN⟩,
  ⟨.type "code", none, .fields (dA [.str "board_count" 1224, .str "board_count" 1225, .str "/claim/cut.py" 1226, .int 351 0, .int 1 0, .int 0 0, .int 0 0, .int 3 0, .ref 657, .bool true, .int 374 0, .ref 658, .none, .ref 659, .ref 660, .ref 661, .int 1228 0, .int 351 0, .str "/claim/cut.py" 1229]), dN⟩,
  ⟨.type "function", none, .func (dF "board_count" "board_count" (topS 105) 3 [] (.none) (.none) (.none) (.str "guestseats.boards" 1201) (none) (.ref 662) (.none) 0), dN⟩,
  ⟨.type "tuple", none, .seq (dA []) 0, dN⟩,
  ⟨.none, none, .fields (dA []), dN⟩,
  ⟨.type "tuple", none, .seq (dA [.str "standing" 1234, .str "sort" 1235, .str "found" 1236]) 0, dN⟩,
  ⟨.type "tuple", none, .seq (dA []) 0, dN⟩,
  ⟨.none, none, .func (dF "many_of" "many_of" (topS 106) 0 [] (.none) (.none) (.none) (.none) (none) (.none) (.none) 0), dN⟩,
  ⟨.type "code", none, .fields (dA [.str "many_of" 1231, .str "many_of" 1232, .str "/claim/cut.py" 1233, .int 353 0, .int 2 0, .int 0 0, .int 0 0, .int 3 0, .ref 664, .bool true, .int 374 0, .ref 665, .none, .ref 666, .ref 667, .ref 668, .int 1237 0, .int 353 0, .str "/claim/cut.py" 1238]), dN⟩,
  ⟨.type "function", none, .func (dF "many_of" "many_of" (topS 106) 3 [] (.none) (.none) (.none) (.str "guestseats.boards" 1201) (none) (.ref 669) (.none) 0), dN⟩,
  ⟨.type "tuple", none, .seq (dA []) 0, dN⟩,
  ⟨.none, none, .fields (dA []), dN⟩,
  ⟨.type "tuple", none, .seq (dA [.str "board" 1243, .str "strength" 1244, .str "many" 1245, .str "whole" 1246, .str "beside" 1247, .str "standing" 1248, .str "weight" 1249, .str "own" 1250, .str "others" 1251, .str "part" 1252]) 0, dN⟩,
  ⟨.type "tuple", none, .seq (dA []) 0, dN⟩,
  ⟨.none, none, .func (dF "rows_beside" "rows_beside" (topS 107) 0 [] (.none) (.none) (.none) (.none) (none) (.none) (.none) 0), dN⟩,
  ⟨.type "code", none, .fields (dA [.str "rows_beside" 1240, .str "rows_beside" 1241, .str "/claim/cut.py" 1242, .int 360 0, .int 2 0, .int 0 0, .int 0 0, .int 3 0, .ref 671, .bool true, .int 374 0, .ref 672, .none, .ref 673, .ref 674, .ref 675, .int 1253 0, .int 360 0, .str "/claim/cut.py" 1254]), dN⟩,
  ⟨.type "function", none, .func (dF "rows_beside" "rows_beside" (topS 107) 3 [] (.none) (.none) (.none) (.str "guestseats.boards" 1201) (none) (.ref 676) (.none) 0), dN⟩,
  ⟨.type "tuple", none, .seq (dA []) 0, dN⟩,
  ⟨.none, none, .fields (dA []), dN⟩,
  ⟨.none, none, .func (dF "counted" "counted" (topS 108) 0 [] (.none) (.none) (.none) (.none) (none) (.none) (.none) 0), dN⟩,
  ⟨.type "code", none, .fields (dA [.str "counted" 1256, .str "counted" 1257, .str "/claim/cut.py" 1258, .int 369 0, .int 1 0, .int 0 0, .int 0 0, .int 3 0, .ref 678, .bool true, .int 374 0, .ref 679, .none, .none, .none, .ref 680, .int 1259 0, .int 369 0, .str "/claim/cut.py" 1260]), dN⟩,
  ⟨.type "function", none, .func (dF "counted" "counted" (topS 108) 3 [] (.none) (.none) (.none) (.str "guestseats.boards" 1201) (none) (.ref 681) (.none) 0), dN⟩,
  ⟨.type "tuple", none, .seq (dA []) 0, dN⟩,
  ⟨.none, none, .fields (dA []), dN⟩,
  ⟨.type "tuple", none, .seq (dA [.str "board" 1265, .str "strength" 1266, .str "whole" 1267, .str "beside" 1268, .str "both" 1269]) 0, dN⟩]
def ob5_2 (P : Params) : List Obj := [
  ⟨.type "tuple", none, .seq (dA []) 0, dN⟩,
  ⟨.none, none, .func (dF "push_poly" "push_poly" (topS 109) 0 [] (.none) (.none) (.none) (.none) (none) (.none) (.none) 0), dN⟩,
  ⟨.type "code", none, .fields (dA [.str "push_poly" 1262, .str "push_poly" 1263, .str "/claim/cut.py" 1264, .int 371 0, .int 2 0, .int 0 0, .int 0 0, .int 3 0, .ref 683, .bool true, .int 374 0, .ref 684, .none, .ref 685, .ref 686, .ref 687, .int 1270 0, .int 371 0, .str "/claim/cut.py" 1271]), dN⟩,
  ⟨.type "function", none, .func (dF "push_poly" "push_poly" (topS 109) 3 [] (.none) (.none) (.none) (.str "guestseats.boards" 1201) (none) (.ref 688) (.none) 0), dN⟩,
  ⟨.type "tuple", none, .seq (dA []) 0, dN⟩,
  ⟨.none, none, .fields (dA []), dN⟩,
  ⟨.type "tuple", none, .seq (dA [.str "board" 1276, .str "strength" 1277, .str "other" 1278, .str "whole" 1279, .str "beside" 1280, .str "low" 1281]) 0, dN⟩,
  ⟨.type "tuple", none, .seq (dA []) 0, dN⟩,
  ⟨.none, none, .func (dF "fills_by" "fills_by" (topS 110) 0 [] (.none) (.none) (.none) (.none) (none) (.none) (.none) 0), dN⟩,
  ⟨.type "code", none, .fields (dA [.str "fills_by" 1273, .str "fills_by" 1274, .str "/claim/cut.py" 1275, .int 375 0, .int 3 0, .int 0 0, .int 0 0, .int 3 0, .ref 690, .bool true, .int 374 0, .ref 691, .none, .ref 692, .ref 693, .ref 694, .int 1282 0, .int 375 0, .str "/claim/cut.py" 1283]), dN⟩,
  ⟨.type "function", none, .func (dF "fills_by" "fills_by" (topS 110) 3 [] (.none) (.none) (.none) (.str "guestseats.boards" 1201) (none) (.ref 695) (.none) 0), dN⟩,
  ⟨.type "tuple", none, .seq (dA []) 0, dN⟩,
  ⟨.none, none, .fields (dA []), dN⟩,
  ⟨.type "tuple", none, .seq (dA [.str "board" 1288, .str "strength" 1289, .str "other" 1290]) 0, dN⟩,
  ⟨.type "tuple", none, .seq (dA []) 0, dN⟩,
  ⟨.none, none, .func (dF "check_both_strengths" "check_both_strengths" (topS 111) 0 [] (.none) (.none) (.none) (.none) (none) (.none) (.none) 0), dN⟩,
  ⟨.type "code", none, .fields (dA [.str "check_both_strengths" 1285, .str "check_both_strengths" 1286, .str "/claim/cut.py" 1287, .int 379 0, .int 3 0, .int 0 0, .int 0 0, .int 3 0, .ref 697, .bool true, .int 374 0, .ref 698, .none, .ref 699, .ref 700, .ref 701, .int 1291 0, .int 379 0, .str "/claim/cut.py" 1292]), dN⟩,
  ⟨.type "function", none, .func (dF "check_both_strengths" "check_both_strengths" (topS 111) 3 [] (.none) (.none) (.none) (.str "guestseats.boards" 1201) (none) (.ref 702) (.none) 0), dN⟩,
  ⟨.type "tuple", none, .seq (dA []) 0, dN⟩,
  ⟨.none, none, .fields (dA []), dN⟩,
  ⟨.type "tuple", none, .seq (dA [.str "board" 1297, .str "strength" 1298, .str "other" 1299, .str "fills" 1300, .str "both" 1301]) 0, dN⟩,
  ⟨.type "tuple", none, .seq (dA []) 0, dN⟩,
  ⟨.none, none, .func (dF "push" "push" (topS 112) 0 [] (.none) (.none) (.none) (.none) (none) (.none) (.none) 0), dN⟩,
  ⟨.type "code", none, .fields (dA [.str "push" 1294, .str "push" 1295, .str "/claim/cut.py" 1296, .int 383 0, .int 3 0, .int 0 0, .int 0 0, .int 3 0, .ref 704, .bool true, .int 374 0, .ref 705, .none, .ref 706, .ref 707, .ref 708, .int 1302 0, .int 383 0, .str "/claim/cut.py" 1303]), dN⟩,
  ⟨.type "function", none, .func (dF "push" "push" (topS 112) 3 [] (.none) (.none) (.none) (.str "guestseats.boards" 1201) (none) (.ref 709) (.none) 0), dN⟩,
  ⟨.type "tuple", none, .seq (dA []) 0, dN⟩,
  ⟨.none, none, .fields (dA []), dN⟩,
  ⟨.type "tuple", none, .seq (dA [.str "board" 1308, .str "strength" 1309]) 0, dN⟩,
  ⟨.type "tuple", none, .seq (dA []) 0, dN⟩,
  ⟨.none, none, .func (dF "push_row" "push_row" (topS 113) 0 [] (.none) (.none) (.none) (.none) (none) (.none) (.none) 0), dN⟩,
  ⟨.type "code", none, .fields (dA [.str "push_row" 1305, .str "push_row" 1306, .str "/claim/cut.py" 1307, .int 387 0, .int 2 0, .int 0 0, .int 0 0, .int 3 0, .ref 711, .bool true, .int 374 0, .ref 712, .none, .ref 713, .ref 714, .ref 715, .int 1310 0, .int 387 0, .str "/claim/cut.py" 1311]), dN⟩,
  ⟨.type "function", none, .func (dF "push_row" "push_row" (topS 113) 3 [] (.none) (.none) (.none) (.str "guestseats.boards" 1201) (none) (.ref 716) (.none) 0), dN⟩,
  ⟨.type "tuple", none, .seq (dA []) 0, dN⟩,
  ⟨.none, none, .fields (dA []), dN⟩,
  ⟨.type "tuple", none, .seq (dA [.str "value" 1318]) 0, dN⟩,
  ⟨.type "tuple", none, .seq (dA []) 0, dN⟩,
  ⟨.none, none, .func (dF "is_share" "is_share" (topS 115) 0 [] (.none) (.none) (.none) (.none) (none) (.none) (.none) 0), dN⟩,
  ⟨.type "code", none, .fields (dA [.str "is_share" 1315, .str "is_share" 1316, .str "/claim/cut.py" 1317, .int 392 0, .int 1 0, .int 0 0, .int 0 0, .int 3 0, .ref 718, .bool true, .int 374 0, .ref 719, .none, .ref 720, .ref 721, .ref 722, .int 1319 0, .int 392 0, .str "/claim/cut.py" 1320]), dN⟩,
  ⟨.type "function", none, .func (dF "is_share" "is_share" (topS 115) 3 [] (.none) (.none) (.none) (.str "guestseats.chains" 1313) (none) (.ref 723) (.none) 0), dN⟩,
  ⟨.type "tuple", none, .seq (dA []) 0, dN⟩]
def ob5_3 (P : Params) : List Obj := [
  ⟨.none, none, .fields (dA []), dN⟩,
  ⟨.type "tuple", none, .seq (dA [.str "value" 1331]) 0, dN⟩,
  ⟨.type "tuple", none, .seq (dA []) 0, dN⟩,
  ⟨.none, none, .func (dF "check_look_seats" "check_look_seats" (topS 119) 0 [] (.none) (.none) (.none) (.none) (none) (.none) (.none) 0), dN⟩,
  ⟨.type "code", none, .fields (dA [.str "check_look_seats" 1328, .str "check_look_seats" 1329, .str "/claim/cut.py" 1330, .int 397 0, .int 1 0, .int 0 0, .int 0 0, .int 3 0, .ref 725, .bool true, .int 374 0, .ref 726, .none, .ref 727, .ref 728, .ref 729, .int 1332 0, .int 397 0, .str "/claim/cut.py" 1333]), dN⟩,
  ⟨.type "function", none, .func (dF "check_look_seats" "check_look_seats" (topS 119) 3 [] (.none) (.none) (.none) (.str "guestseats.looks" 1322) (none) (.ref 730) (.none) 0), dN⟩,
  ⟨.type "tuple", none, .seq (dA []) 0, dN⟩,
  ⟨.none, none, .fields (dA []), dN⟩,
  ⟨.type "tuple", none, .seq (dA [.str "seats" 1338, .str "value" 1339]) 0, dN⟩,
  ⟨.type "tuple", none, .seq (dA []) 0, dN⟩,
  ⟨.none, none, .func (dF "is_look_for" "is_look_for" (topS 120) 0 [] (.none) (.none) (.none) (.none) (none) (.none) (.none) 0), dN⟩,
  ⟨.type "code", none, .fields (dA [.str "is_look_for" 1335, .str "is_look_for" 1336, .str "/claim/cut.py" 1337, .int 400 0, .int 2 0, .int 0 0, .int 0 0, .int 3 0, .ref 732, .bool true, .int 374 0, .ref 733, .none, .ref 734, .ref 735, .ref 736, .int 1340 0, .int 400 0, .str "/claim/cut.py" 1341]), dN⟩,
  ⟨.type "function", none, .func (dF "is_look_for" "is_look_for" (topS 120) 3 [] (.none) (.none) (.none) (.str "guestseats.looks" 1322) (none) (.ref 737) (.none) 0), dN⟩,
  ⟨.type "tuple", none, .seq (dA []) 0, dN⟩,
  ⟨.none, none, .fields (dA []), dN⟩,
  ⟨.type "tuple", none, .seq (dA [.str "seats" 1346, .str "value" 1347, .str "index" 1348, .str "look" 1349]) 0, dN⟩,
  ⟨.type "tuple", none, .seq (dA []) 0, dN⟩,
  ⟨.none, none, .func (dF "wrong_look" "wrong_look" (topS 121) 0 [] (.none) (.none) (.none) (.none) (none) (.none) (.none) 0), dN⟩,
  ⟨.type "code", none, .fields (dA [.str "wrong_look" 1343, .str "wrong_look" 1344, .str "/claim/cut.py" 1345, .int 406 0, .int 2 0, .int 0 0, .int 0 0, .int 3 0, .ref 739, .bool true, .int 374 0, .ref 740, .none, .ref 741, .ref 742, .ref 743, .int 1350 0, .int 406 0, .str "/claim/cut.py" 1351]), dN⟩,
  ⟨.type "function", none, .func (dF "wrong_look" "wrong_look" (topS 121) 3 [] (.none) (.none) (.none) (.str "guestseats.looks" 1322) (none) (.ref 744) (.none) 0), dN⟩,
  ⟨.type "tuple", none, .seq (dA []) 0, dN⟩,
  ⟨.none, none, .fields (dA []), dN⟩,
  ⟨.type "tuple", none, .seq (dA [.str "seats" 1356, .str "value" 1357]) 0, dN⟩,
  ⟨.type "tuple", none, .seq (dA []) 0, dN⟩,
  ⟨.none, none, .func (dF "are_looks" "are_looks" (topS 122) 0 [] (.none) (.none) (.none) (.none) (none) (.none) (.none) 0), dN⟩,
  ⟨.type "code", none, .fields (dA [.str "are_looks" 1353, .str "are_looks" 1354, .str "/claim/cut.py" 1355, .int 413 0, .int 2 0, .int 0 0, .int 0 0, .int 3 0, .ref 746, .bool true, .int 374 0, .ref 747, .none, .ref 748, .ref 749, .ref 750, .int 1358 0, .int 413 0, .str "/claim/cut.py" 1359]), dN⟩,
  ⟨.type "function", none, .func (dF "are_looks" "are_looks" (topS 122) 3 [] (.none) (.none) (.none) (.str "guestseats.looks" 1322) (none) (.ref 751) (.none) 0), dN⟩,
  ⟨.type "tuple", none, .seq (dA []) 0, dN⟩,
  ⟨.none, none, .fields (dA []), dN⟩,
  ⟨.type "tuple", none, .seq (dA [.str "seats" 1364, .str "value" 1365, .str "wrong" 1366]) 0, dN⟩,
  ⟨.type "tuple", none, .seq (dA []) 0, dN⟩,
  ⟨.none, none, .func (dF "check_looks" "check_looks" (topS 123) 0 [] (.none) (.none) (.none) (.none) (none) (.none) (.none) 0), dN⟩,
  ⟨.type "code", none, .fields (dA [.str "check_looks" 1361, .str "check_looks" 1362, .str "/claim/cut.py" 1363, .int 415 0, .int 2 0, .int 0 0, .int 0 0, .int 3 0, .ref 753, .bool true, .int 374 0, .ref 754, .none, .ref 755, .ref 756, .ref 757, .int 1367 0, .int 415 0, .str "/claim/cut.py" 1368]), dN⟩,
  ⟨.type "function", none, .func (dF "check_looks" "check_looks" (topS 123) 3 [] (.none) (.none) (.none) (.str "guestseats.looks" 1322) (none) (.ref 758) (.none) 0), dN⟩,
  ⟨.type "tuple", none, .seq (dA []) 0, dN⟩,
  ⟨.none, none, .fields (dA []), dN⟩,
  ⟨.none, none, .func (dF "are_shares" "are_shares" (topS 124) 0 [] (.none) (.none) (.none) (.none) (none) (.none) (.none) 0), dN⟩,
  ⟨.type "code", none, .fields (dA [.str "are_shares" 1370, .str "are_shares" 1371, .str "/claim/cut.py" 1372, .int 420 0, .int 2 0, .int 0 0, .int 0 0, .int 3 0, .ref 760, .bool true, .int 374 0, .ref 761, .none, .none, .none, .ref 762, .int 1373 0, .int 420 0, .str "/claim/cut.py" 1374]), dN⟩,
  ⟨.type "function", none, .func (dF "are_shares" "are_shares" (topS 124) 3 [] (.none) (.none) (.none) (.str "guestseats.looks" 1322) (none) (.ref 763) (.none) 0), dN⟩,
  ⟨.type "tuple", none, .seq (dA []) 0, dN⟩]
def ob5_4 (P : Params) : List Obj := [
  ⟨.none, none, .fields (dA []), dN⟩,
  ⟨.none, none, .func (dF "inequalities_of" "inequalities_of" (topS 125) 0 [] (.none) (.none) (.none) (.none) (none) (.none) (.none) 0), dN⟩,
  ⟨.type "code", none, .fields (dA [.str "inequalities_of" 1376, .str "inequalities_of" 1377, .str "/claim/cut.py" 1378, .int 424 0, .int 3 0, .int 0 0, .int 0 0, .int 3 0, .ref 765, .bool true, .int 374 0, .ref 766, .none, .none, .none, .ref 767, .int 1379 0, .int 424 0, .str "/claim/cut.py" 1380]), dN⟩,
  ⟨.type "function", none, .func (dF "inequalities_of" "inequalities_of" (topS 125) 3 [] (.none) (.none) (.none) (.str "guestseats.looks" 1322) (none) (.ref 768) (.none) 0), dN⟩,
  ⟨.type "tuple", none, .seq (dA []) 0, dN⟩,
  ⟨.none, none, .fields (dA []), dN⟩,
  ⟨.none, none, .func (dF "is_fitting" "is_fitting" (topS 126) 0 [] (.none) (.none) (.none) (.none) (none) (.none) (.none) 0), dN⟩,
  ⟨.type "code", none, .fields (dA [.str "is_fitting" 1382, .str "is_fitting" 1383, .str "/claim/cut.py" 1384, .int 432 0, .int 3 0, .int 0 0, .int 0 0, .int 3 0, .ref 770, .bool true, .int 374 0, .ref 771, .none, .none, .none, .ref 772, .int 1385 0, .int 432 0, .str "/claim/cut.py" 1386]), dN⟩,
  ⟨.type "function", none, .func (dF "is_fitting" "is_fitting" (topS 126) 3 [] (.none) (.none) (.none) (.str "guestseats.looks" 1322) (none) (.ref 773) (.none) 0), dN⟩,
  ⟨.type "tuple", none, .seq (dA [.int 1 1390, .int 3 1391, .int 9 1392]) 0, dN⟩,
  ⟨.type "tuple", none, .seq (dA [.int 2 1394, .int 0 1395]) 0, dN⟩,
  ⟨.type "tuple", none, .seq (dA [.int 0 1396, .int 1 1397]) 0, dN⟩,
  ⟨.type "tuple", none, .seq (dA [.ref 776, .ref 777]) 0, dN⟩,
  ⟨.type "tuple", none, .seq (dA []) 0, dN⟩,
  ⟨.none, none, .fields (dA []), dN⟩,
  ⟨.none, none, .func (dF "link_between" "link_between" (topS 130) 0 [] (.none) (.none) (.none) (.none) (none) (.none) (.none) 0), dN⟩,
  ⟨.type "code", none, .fields (dA [.str "link_between" 1399, .str "link_between" 1400, .str "/claim/cut.py" 1401, .int 443 0, .int 4 0, .int 0 0, .int 0 0, .int 3 0, .ref 779, .bool true, .int 374 0, .ref 780, .none, .none, .none, .ref 781, .int 1402 0, .int 443 0, .str "/claim/cut.py" 1403]), dN⟩,
  ⟨.type "function", none, .func (dF "link_between" "link_between" (topS 130) 3 [] (.none) (.none) (.none) (.str "guestseats.sorts" 1388) (none) (.ref 782) (.none) 0), dN⟩,
  ⟨.type "tuple", none, .seq (dA []) 0, dN⟩,
  ⟨.none, none, .fields (dA []), dN⟩,
  ⟨.type "tuple", none, .seq (dA [.str "board" 1408, .str "many" 1409, .str "found" 1410, .str "first" 1411, .str "second" 1412, .str "states" 1413, .str "place" 1414, .str "one" 1415, .str "two" 1416, .str "state" 1417, .str "link" 1418]) 0, dN⟩,
  ⟨.type "tuple", none, .seq (dA []) 0, dN⟩,
  ⟨.none, none, .func (dF "links_on" "links_on" (topS 131) 0 [] (.none) (.none) (.none) (.none) (none) (.none) (.none) 0), dN⟩,
  ⟨.type "code", none, .fields (dA [.str "links_on" 1405, .str "links_on" 1406, .str "/claim/cut.py" 1407, .int 449 0, .int 1 0, .int 0 0, .int 0 0, .int 3 0, .ref 784, .bool true, .int 374 0, .ref 785, .none, .ref 786, .ref 787, .ref 788, .int 1419 0, .int 449 0, .str "/claim/cut.py" 1420]), dN⟩,
  ⟨.type "function", none, .func (dF "links_on" "links_on" (topS 131) 3 [] (.none) (.none) (.none) (.str "guestseats.sorts" 1388) (none) (.ref 789) (.none) 0), dN⟩,
  ⟨.type "tuple", none, .seq (dA []) 0, dN⟩,
  ⟨.none, none, .fields (dA []), dN⟩,
  ⟨.type "tuple", none, .seq (dA [.str "board" 1425, .str "found" 1426]) 0, dN⟩,
  ⟨.type "tuple", none, .seq (dA []) 0, dN⟩,
  ⟨.none, none, .func (dF "low_link" "low_link" (topS 132) 0 [] (.none) (.none) (.none) (.none) (none) (.none) (.none) 0), dN⟩,
  ⟨.type "code", none, .fields (dA [.str "low_link" 1422, .str "low_link" 1423, .str "/claim/cut.py" 1424, .int 461 0, .int 1 0, .int 0 0, .int 0 0, .int 3 0, .ref 791, .bool true, .int 374 0, .ref 792, .none, .ref 793, .ref 794, .ref 795, .int 1427 0, .int 461 0, .str "/claim/cut.py" 1428]), dN⟩,
  ⟨.type "function", none, .func (dF "low_link" "low_link" (topS 132) 3 [] (.none) (.none) (.none) (.str "guestseats.sorts" 1388) (none) (.ref 796) (.none) 0), dN⟩,
  ⟨.type "tuple", none, .seq (dA []) 0, dN⟩,
  ⟨.none, none, .fields (dA []), dN⟩,
  ⟨.type "tuple", none, .seq (dA [.str "board" 1433]) 0, dN⟩,
  ⟨.type "tuple", none, .seq (dA []) 0, dN⟩,
  ⟨.none, none, .func (dF "board_links" "board_links" (topS 133) 0 [] (.none) (.none) (.none) (.none) (none) (.none) (.none) 0), dN⟩,
  ⟨.type "code", none, .fields (dA [.str "board_links" 1430, .str "board_links" 1431, .str "/claim/cut.py" 1432, .int 466 0, .int 1 0, .int 0 0, .int 0 0, .int 3 0, .ref 798, .bool true, .int 374 0, .ref 799, .none, .ref 800, .ref 801, .ref 802, .int 1434 0, .int 466 0, .str "/claim/cut.py" 1435]), dN⟩,
  ⟨.type "function", none, .func (dF "board_links" "board_links" (topS 133) 3 [] (.none) (.none) (.none) (.str "guestseats.sorts" 1388) (none) (.ref 803) (.none) 0), dN⟩,
  ⟨.type "tuple", none, .seq (dA []) 0, dN⟩]
def ob5_5 (P : Params) : List Obj := [
  ⟨.none, none, .fields (dA []), dN⟩,
  ⟨.type "tuple", none, .seq (dA [.str "board" 1440]) 0, dN⟩,
  ⟨.type "tuple", none, .seq (dA []) 0, dN⟩,
  ⟨.none, none, .func (dF "keeps_apart" "keeps_apart" (topS 134) 0 [] (.none) (.none) (.none) (.none) (none) (.none) (.none) 0), dN⟩,
  ⟨.type "code", none, .fields (dA [.str "keeps_apart" 1437, .str "keeps_apart" 1438, .str "/claim/cut.py" 1439, .int 469 0, .int 1 0, .int 0 0, .int 0 0, .int 3 0, .ref 805, .bool true, .int 374 0, .ref 806, .none, .ref 807, .ref 808, .ref 809, .int 1441 0, .int 469 0, .str "/claim/cut.py" 1442]), dN⟩,
  ⟨.type "function", none, .func (dF "keeps_apart" "keeps_apart" (topS 134) 3 [] (.none) (.none) (.none) (.str "guestseats.sorts" 1388) (none) (.ref 810) (.none) 0), dN⟩,
  ⟨.type "tuple", none, .seq (dA []) 0, dN⟩,
  ⟨.none, none, .fields (dA []), dN⟩,
  ⟨.type "tuple", none, .seq (dA [.str "row" 1449, .str "many" 1450, .str "found" 1451, .str "at" 1452, .str "total" 1453, .str "step" 1454]) 0, dN⟩,
  ⟨.type "tuple", none, .seq (dA []) 0, dN⟩,
  ⟨.none, none, .func (dF "powers_of" "powers_of" (topS 136) 0 [] (.none) (.none) (.none) (.none) (none) (.none) (.none) 0), dN⟩,
  ⟨.type "code", none, .fields (dA [.str "powers_of" 1446, .str "powers_of" 1447, .str "/claim/cut.py" 1448, .int 473 0, .int 2 0, .int 0 0, .int 0 0, .int 3 0, .ref 812, .bool true, .int 374 0, .ref 813, .none, .ref 814, .ref 815, .ref 816, .int 1455 0, .int 473 0, .str "/claim/cut.py" 1456]), dN⟩,
  ⟨.type "function", none, .func (dF "powers_of" "powers_of" (topS 136) 3 [] (.none) (.none) (.none) (.str "guestseats.unlinked" 1444) (none) (.ref 817) (.none) 0), dN⟩,
  ⟨.type "tuple", none, .seq (dA []) 0, dN⟩,
  ⟨.none, none, .fields (dA []), dN⟩,
  ⟨.none, none, .func (dF "table_of" "table_of" (topS 137) 0 [] (.none) (.none) (.none) (.none) (none) (.none) (.none) 0), dN⟩,
  ⟨.type "code", none, .fields (dA [.str "table_of" 1458, .str "table_of" 1459, .str "/claim/cut.py" 1460, .int 481 0, .int 1 0, .int 0 0, .int 0 0, .int 3 0, .ref 819, .bool true, .int 374 0, .ref 820, .none, .none, .none, .ref 821, .int 1461 0, .int 481 0, .str "/claim/cut.py" 1462]), dN⟩,
  ⟨.type "function", none, .func (dF "table_of" "table_of" (topS 137) 3 [] (.none) (.none) (.none) (.str "guestseats.unlinked" 1444) (none) (.ref 822) (.none) 0), dN⟩]
def ob5 (P : Params) : List Obj := ob5_0 P ++ ob5_1 P ++ ob5_2 P ++ ob5_3 P ++ ob5_4 P ++ ob5_5 P
def ch5 (P : Params) : List (Nat × Obj) := [
  (3, ⟨.type "dict", none, .dict (dB [dE P "__name__" 165 (.str "guestseats.unlinked" 1444), dE P "__doc__" 166 (.none), dE P "__package__" 167 (.none), dE P "__loader__" 168 (.builtin "__main__.__loader__#opaque"), dE P "__spec__" 169 (.none), dE P "__annotations__" 170 (.ref 6), dE P "__builtins__" 171 (.ref 4), dE P "__file__" 173 (.str "/claim/cut.py" 172), dE P "__cached__" 174 (.none), dE P "gcd" 370 (.builtin "math.gcd"), dE P "lcm" 373 (.builtin "math.lcm"), dE P "SeatError" 399 (.ref 52), dE P "InvalidStrength" 424 (.ref 72), dE P "InvalidCarrier" 449 (.ref 91), dE P "InvalidNumber" 474 (.ref 110), dE P "InvalidBoard" 499 (.ref 129), dE P "InvalidLooks" 524 (.ref 148), dE P "is_whole" 533 (.ref 157), dE P "is_between" 542 (.ref 164), dE P "are_wholes" 548 (.ref 169), dE P "divisor_of" 557 (.ref 176), dE P "lowest" 563 (.ref 181), dE P "sign_of" 570 (.ref 188), dE P "bits_in" 578 (.ref 195), dE P "ZERO" 583 (.ref 196), dE P "ONE" 586 (.ref 197), dE P "is_ratio" 593 (.ref 204), dE P "ratio" 601 (.ref 211), dE P "plus" 609 (.ref 218), dE P "minus" 617 (.ref 225), dE P "times" 625 (.ref 232), dE P "over" 633 (.ref 239), dE P "power" 644 (.ref 246), dE P "total_of" 653 (.ref 253), dE P "is_below" 661 (.ref 260), dE P "side_of_two" 669 (.ref 267), dE P "common_low" 678 (.ref 274), dE P "made_whole" 684 (.ref 279), dE P "trimmed" 694 (.ref 286), dE P "poly_plus" 700 (.ref 291), dE P "poly_scaled" 706 (.ref 296), dE P "poly_minus" 714 (.ref 303), dE P "poly_times" 727 (.ref 310), dE P "poly_up" 735 (.ref 317), dE P "slope_of" 741 (.ref 322), dE P "formed" 748 (.ref 329), dE P "polys_of" 754 (.ref 334), dE P "number_at" 765 (.ref 341), dE P "sign_at" 773 (.ref 348), dE P "divided" 779 (.ref 353), dE P "common_part" 787 (.ref 360), dE P "single_roots" 795 (.ref 367), dE P "without_nought" 803 (.ref 374), dE P "chain_of" 813 (.ref 381), dE P "changes_at" 819 (.ref 386), dE P "bounds_of" 825 (.ref 391), dE P "parting" 835 (.ref 398), dE P "spans_of" 853 (.ref 405), dE P "looks_of" 859 (.ref 410), dE P "row_of" 868 (.ref 417), dE P "SIZES" 876 (.ref 418), dE P "is_amount" 883 (.ref 425), dE P "is_carrier" 889 (.ref 430), dE P "check_carrier" 896 (.ref 437), dE P "check_strength" 903 (.ref 444), dE P "seat_count" 910 (.ref 451), dE P "has_guest" 919 (.ref 458), dE P "with_seats" 925 (.ref 463), dE P "counts_in" 936 (.ref 470), dE P "counts_by" 943 (.ref 477), dE P "split_by" 949 (.ref 482), dE P "terms_at" 960 (.ref 489), dE P "row_at" 968 (.ref 496), dE P "mean_of" 974 (.ref 501), dE P "rising_of" 987 (.ref 508), dE P "bit_of" 998 (.ref 515), dE P "is_free" 1007 (.ref 522), dE P "free_standings" 1013 (.ref 527), dE P "link_over" 1026 (.ref 534), dE P "seat_pairs" 1032 (.ref 539), dE P "all_links" 1038 (.ref 544), dE P "weights_at" 1053 (.ref 551), dE P "share_of" 1059 (.ref 556), dE P "pull_of" 1073 (.ref 563), dE P "shunned_link" 1083 (.ref 570), dE P "leaning_strengths" 1096 (.ref 577), dE P "lowering" 1109 (.ref 584), dE P "fill_gap" 1121 (.ref 591), dE P "bars" 1134 (.ref 598), dE P "barring" 1144 (.ref 605), dE P "MOST_PAIRS" 1148 (.int 3 1147), dE P "MOST_SEATS_baths" 1150 (.int 6 1149), dE P "is_pair" 1157 (.ref 612), dE P "wrong_pair" 1167 (.ref 619), dE P "is_bath" 1174 (.ref 626), dE P "bound_by" 1180 (.ref 631), dE P "bound_polys" 1194 (.ref 638), dE P "bound_gap" 1200 (.ref 643), dE P "BOARD_SIZES" 1206 (.ref 644), dE P "SORT_A" 1208 (.int 1 1207), dE P "SORT_B" 1210 (.int 2 1209), dE P "is_board" 1216 (.ref 649), dE P "check_board" 1223 (.ref 656), dE P "board_count" 1230 (.ref 663), dE P "many_of" 1239 (.ref 670), dE P "rows_beside" 1255 (.ref 677), dE P "counted" 1261 (.ref 682), dE P "push_poly" 1272 (.ref 689), dE P "fills_by" 1284 (.ref 696), dE P "check_both_strengths" 1293 (.ref 703), dE P "push" 1304 (.ref 710), dE P "push_row" 1312 (.ref 717), dE P "is_share" 1321 (.ref 724), dE P "MOST_LOOKS" 1325 (.int 4 1324), dE P "MOST_OF_LOOKS" 1327 (.int 5 1326), dE P "check_look_seats" 1334 (.ref 731), dE P "is_look_for" 1342 (.ref 738), dE P "wrong_look" 1352 (.ref 745), dE P "are_looks" 1360 (.ref 752), dE P "check_looks" 1369 (.ref 759), dE P "are_shares" 1375 (.ref 764), dE P "inequalities_of" 1381 (.ref 769), dE P "is_fitting" 1387 (.ref 774), dE P "PLACES" 1393 (.ref 775), dE P "STEPS" 1398 (.ref 778), dE P "link_between" 1404 (.ref 783), dE P "links_on" 1421 (.ref 790), dE P "low_link" 1429 (.ref 797), dE P "board_links" 1436 (.ref 804), dE P "keeps_apart" 1443 (.ref 811), dE P "powers_of" 1457 (.ref 818), dE P "table_of" 1463 (.ref 823)]) 132, dN⟩),
  (40, ⟨.none, none, .fields (dA [.int 3 0, .int 0 0, .ref 48, .int 5 0, .int 0 0, .ref 61, .int 9 0, .int 0 0, .ref 80, .int 13 0, .int 0 0, .ref 99, .int 17 0, .int 0 0, .ref 118, .int 21 0, .int 0 0, .ref 137, .int 26 0, .int 0 0, .ref 156, .int 28 0, .int 0 0, .ref 163, .int 30 0, .int 0 0, .ref 168, .int 32 0, .int 0 0, .ref 175, .int 37 0, .int 0 0, .ref 180, .int 40 0, .int 0 0, .ref 187, .int 42 0, .int 0 0, .ref 194, .int 50 0, .int 0 0, .ref 203, .int 52 0, .int 0 0, .ref 210, .int 54 0, .int 0 0, .ref 217, .int 56 0, .int 0 0, .ref 224, .int 58 0, .int 0 0, .ref 231, .int 60 0, .int 0 0, .ref 238, .int 62 0, .int 0 0, .ref 245, .int 67 0, .int 0 0, .ref 252, .int 72 0, .int 0 0, .ref 259, .int 74 0, .int 0 0, .ref 266, .int 76 0, .int 0 0, .ref 273, .int 81 0, .int 0 0, .ref 278, .int 84 0, .int 0 0, .ref 285, .int 89 0, .int 0 0, .ref 290, .int 93 0, .int 0 0, .ref 295, .int 95 0, .int 0 0, .ref 302, .int 97 0, .int 0 0, .ref 309, .int 103 0, .int 0 0, .ref 316, .int 105 0, .int 0 0, .ref 321, .int 107 0, .int 0 0, .ref 328, .int 109 0, .int 0 0, .ref 333, .int 112 0, .int 0 0, .ref 340, .int 117 0, .int 0 0, .ref 347, .int 119 0, .int 0 0, .ref 352, .int 127 0, .int 0 0, .ref 359, .int 131 0, .int 0 0, .ref 366, .int 134 0, .int 0 0, .ref 373, .int 139 0, .int 0 0, .ref 380, .int 145 0, .int 0 0, .ref 385, .int 148 0, .int 0 0, .ref 390, .int 151 0, .int 0 0, .ref 397, .int 156 0, .int 0 0, .ref 404, .int 170 0, .int 0 0, .ref 409, .int 175 0, .int 0 0, .ref 416, .int 186 0, .int 0 0, .ref 424, .int 188 0, .int 0 0, .ref 429, .int 192 0, .int 0 0, .ref 436, .int 195 0, .int 0 0, .ref 443, .int 198 0, .int 0 0, .ref 450, .int 200 0, .int 0 0, .ref 457, .int 204 0, .int 0 0, .ref 462, .int 206 0, .int 0 0, .ref 469, .int 212 0, .int 0 0, .ref 476, .int 214 0, .int 0 0, .ref 481, .int 218 0, .int 0 0, .ref 488, .int 224 0, .int 0 0, .ref 495, .int 226 0, .int 0 0, .ref 500, .int 230 0, .int 0 0, .ref 507, .int 235 0, .int 0 0, .ref 514, .int 240 0, .int 0 0, .ref 521, .int 242 0, .int 0 0, .ref 526, .int 244 0, .int 0 0, .ref 533, .int 248 0, .int 0 0, .ref 538, .int 251 0, .int 0 0, .ref 543, .int 257 0, .int 0 0, .ref 550, .int 264 0, .int 0 0, .ref 555, .int 266 0, .int 0 0, .ref 562, .int 271 0, .int 0 0, .ref 569, .int 277 0, .int 0 0, .ref 576, .int 283 0, .int 0 0, .ref 583, .int 296 0, .int 0 0, .ref 590, .int 300 0, .int 0 0, .ref 597, .int 303 0, .int 0 0, .ref 604, .int 312 0, .int 0 0, .ref 611, .int 314 0, .int 0 0, .ref 618, .int 323 0, .int 0 0, .ref 625, .int 325 0, .int 0 0, .ref 630, .int 327 0, .int 0 0, .ref 637, .int 334 0, .int 0 0, .ref 642, .int 344 0, .int 0 0, .ref 648, .int 348 0, .int 0 0, .ref 655, .int 351 0, .int 0 0, .ref 662, .int 353 0, .int 0 0, .ref 669, .int 360 0, .int 0 0, .ref 676, .int 369 0, .int 0 0, .ref 681, .int 371 0, .int 0 0, .ref 688, .int 375 0, .int 0 0, .ref 695, .int 379 0, .int 0 0, .ref 702, .int 383 0, .int 0 0, .ref 709, .int 387 0, .int 0 0, .ref 716, .int 392 0, .int 0 0, .ref 723, .int 397 0, .int 0 0, .ref 730, .int 400 0, .int 0 0, .ref 737, .int 406 0, .int 0 0, .ref 744, .int 413 0, .int 0 0, .ref 751, .int 415 0, .int 0 0, .ref 758, .int 420 0, .int 0 0, .ref 763, .int 424 0, .int 0 0, .ref 768, .int 432 0, .int 0 0, .ref 773, .int 443 0, .int 0 0, .ref 782, .int 449 0, .int 0 0, .ref 789, .int 461 0, .int 0 0, .ref 796, .int 466 0, .int 0 0, .ref 803, .int 469 0, .int 0 0, .ref 810, .int 473 0, .int 0 0, .ref 817, .int 481 0, .int 0 0, .ref 822]), dN⟩)]
def tr5 (P : Params) : PySem.W.BT := setAll (ch5 P) (insAll (ob5 P) (tr4 P) 606)
def st5 (w : World) (os : OsState) : PySem.W.SharedT := ⟨tr5 w.params, 824, {}, Array.mk [], {}, 1464, os⟩
def ob6_0 (P : Params) : List Obj := [
  ⟨.type "tuple", none, .seq (dA []) 0, dN⟩,
  ⟨.type "builtin_function_or_method", none, .fields (dA [.builtin "type.__prepare__", .type "type"]), dN⟩,
  ⟨.type "dict", none, .dict (dB [dE P "__module__" 1471 (.str "guestseats.unlinked" 1444), dE P "__qualname__" 1473 (.str "Squares" 1472), dE P "__firstlineno__" 1475 (.int 485 1474), dE P "__init__" 1484 (.ref 837), dE P "product" 1496 (.ref 844), dE P "take" 1502 (.ref 849), dE P "look_beside" 1508 (.ref 854), dE P "__static_attributes__" 1513 (.ref 855)]) 8, dN⟩,
  ⟨.type "tuple", none, .seq (dA []) 0, dN⟩,
  ⟨.none, none, .fields (dA [.int 487 0, .int 4 0, .ref 836, .int 496 0, .int 4 0, .ref 843, .int 503 0, .int 4 0, .ref 848, .int 516 0, .int 4 0, .ref 853]), dN⟩,
  ⟨.type "code", none, .fields (dA [.str "Squares" 1466, .str "Squares" 1467, .str "/claim/cut.py" 1468, .int 485 0, .int 0 0, .int 0 0, .int 0 0, .int 0 0, .ref 827, .bool false, .int 374 0, .ref 828, .none, .none, .none, .none, .int 1469 0, .int 485 0, .str "/claim/cut.py" 1470]), dN⟩,
  ⟨.type "frame", none, .plain, dS [some (.ref 829), some (.ref 3), some (.ref 826), none, some (.str "guestseats.unlinked" 1444), none, some (.ref 0)]⟩,
  ⟨.type "tuple", none, .seq (dA []) 0, dN⟩,
  ⟨.none, none, .fields (dA []), dN⟩,
  ⟨.type "tuple", none, .seq (dA [.str "self" 1479, .str "table" 1480, .str "at" 1481]) 0, dN⟩,
  ⟨.type "tuple", none, .seq (dA []) 0, dN⟩,
  ⟨.none, none, .func (dF "__init__" "Squares.__init__" (inClass (topS 138) 0) 0 [] (.none) (.none) (.none) (.none) (none) (.none) (.none) 0), dN⟩,
  ⟨.type "code", none, .fields (dA [.str "__init__" 1476, .str "Squares.__init__" 1477, .str "/claim/cut.py" 1478, .int 487 0, .int 2 0, .int 0 0, .int 0 0, .int 3 0, .ref 831, .bool true, .int 374 0, .ref 832, .none, .ref 833, .ref 834, .ref 835, .int 1482 0, .int 487 0, .str "/claim/cut.py" 1483]), dN⟩,
  ⟨.type "function", none, .func (dF "__init__" "Squares.__init__" (inClass (topS 138) 0) 3 [] (.none) (.none) (.none) (.str "guestseats.unlinked" 1444) (none) (.ref 836) (.none) 0), dN⟩,
  ⟨.type "tuple", none, .seq (dA []) 0, dN⟩,
  ⟨.none, none, .fields (dA []), dN⟩,
  ⟨.type "tuple", none, .seq (dA [.str "self" 1488, .str "one" 1489, .str "two" 1490, .str "found" 1491, .str "left" 1492, .str "right" 1493]) 0, dN⟩,
  ⟨.type "tuple", none, .seq (dA []) 0, dN⟩,
  ⟨.none, none, .func (dF "product" "Squares.product" (inClass (topS 138) 1) 0 [] (.none) (.none) (.none) (.none) (none) (.none) (.none) 0), dN⟩,
  ⟨.type "code", none, .fields (dA [.str "product" 1485, .str "Squares.product" 1486, .str "/claim/cut.py" 1487, .int 496 0, .int 3 0, .int 0 0, .int 0 0, .int 3 0, .ref 838, .bool true, .int 374 0, .ref 839, .none, .ref 840, .ref 841, .ref 842, .int 1494 0, .int 496 0, .str "/claim/cut.py" 1495]), dN⟩,
  ⟨.type "function", none, .func (dF "product" "Squares.product" (inClass (topS 138) 1) 3 [] (.none) (.none) (.none) (.str "guestseats.unlinked" 1444) (none) (.ref 843) (.none) 0), dN⟩,
  ⟨.type "tuple", none, .seq (dA []) 0, dN⟩,
  ⟨.none, none, .fields (dA []), dN⟩,
  ⟨.none, none, .func (dF "take" "Squares.take" (inClass (topS 138) 2) 0 [] (.none) (.none) (.none) (.none) (none) (.none) (.none) 0), dN⟩,
  ⟨.type "code", none, .fields (dA [.str "take" 1497, .str "Squares.take" 1498, .str "/claim/cut.py" 1499, .int 503 0, .int 2 0, .int 0 0, .int 0 0, .int 3 0, .ref 845, .bool true, .int 374 0, .ref 846, .none, .none, .none, .ref 847, .int 1500 0, .int 503 0, .str "/claim/cut.py" 1501]), dN⟩,
  ⟨.type "function", none, .func (dF "take" "Squares.take" (inClass (topS 138) 2) 3 [] (.none) (.none) (.none) (.str "guestseats.unlinked" 1444) (none) (.ref 848) (.none) 0), dN⟩,
  ⟨.type "tuple", none, .seq (dA []) 0, dN⟩,
  ⟨.none, none, .fields (dA []), dN⟩,
  ⟨.none, none, .func (dF "look_beside" "Squares.look_beside" (inClass (topS 138) 3) 0 [] (.none) (.none) (.none) (.none) (none) (.none) (.none) 0), dN⟩,
  ⟨.type "code", none, .fields (dA [.str "look_beside" 1503, .str "Squares.look_beside" 1504, .str "/claim/cut.py" 1505, .int 516 0, .int 2 0, .int 0 0, .int 0 0, .int 3 0, .ref 850, .bool true, .int 374 0, .ref 851, .none, .none, .none, .ref 852, .int 1506 0, .int 516 0, .str "/claim/cut.py" 1507]), dN⟩,
  ⟨.type "function", none, .func (dF "look_beside" "Squares.look_beside" (inClass (topS 138) 3) 3 [] (.none) (.none) (.none) (.str "guestseats.unlinked" 1444) (none) (.ref 853) (.none) 0), dN⟩,
  ⟨.type "tuple", none, .seq (dA [.str "bases" 1509, .str "many" 1510, .str "table" 1511, .str "vector" 1512]) 0, dN⟩,
  ⟨.type "dict", none, .dict (dB [dE P "__module__" 1471 (.str "guestseats.unlinked" 1444), dE P "__firstlineno__" 1475 (.int 485 1474), dE P "__init__" 1484 (.ref 837), dE P "product" 1496 (.ref 844), dE P "take" 1502 (.ref 849), dE P "look_beside" 1508 (.ref 854), dE P "__static_attributes__" 1513 (.ref 855), dE P "__dict__" 1515 (.ref 858), dE P "__weakref__" 1517 (.ref 859), dE P "__doc__" 1518 (.none)]) 4, dN⟩,
  ⟨.type "type", none, .cls ⟨"Squares", [.type "object"], [.ref 857, .type "object"], 856, "Squares", true, [], [], false, none, false⟩, dS [none, none, some (.str "Squares" 1464), some (.str "Squares" 1472), some (.builtin "object.__new__"), some (.bool true)]⟩,
  ⟨.type "getset_descriptor", none, .fields (dA [.str "__dict__" 1514, .ref 857, .builtin "function.__dict__", .builtin "function.__dict__#set"]), dN⟩,
  ⟨.type "getset_descriptor", none, .fields (dA [.str "__weakref__" 1516, .ref 857, .builtin "ExceptionGroup.__weakref__", .none]), dN⟩,
  ⟨.type "super", none, .fields (dA [.ref 857, .ref 857, .ref 857]), dN⟩,
  ⟨.type "builtin_function_or_method", none, .fields (dA [.builtin "object.__init_subclass__", .ref 857]), dN⟩]
def ob6 (P : Params) : List Obj := ob6_0 P
def ch6 (P : Params) : List (Nat × Obj) := [
  (3, ⟨.type "dict", none, .dict (dB [dE P "__name__" 165 (.str "guestseats.unlinked" 1444), dE P "__doc__" 166 (.none), dE P "__package__" 167 (.none), dE P "__loader__" 168 (.builtin "__main__.__loader__#opaque"), dE P "__spec__" 169 (.none), dE P "__annotations__" 170 (.ref 6), dE P "__builtins__" 171 (.ref 4), dE P "__file__" 173 (.str "/claim/cut.py" 172), dE P "__cached__" 174 (.none), dE P "gcd" 370 (.builtin "math.gcd"), dE P "lcm" 373 (.builtin "math.lcm"), dE P "SeatError" 399 (.ref 52), dE P "InvalidStrength" 424 (.ref 72), dE P "InvalidCarrier" 449 (.ref 91), dE P "InvalidNumber" 474 (.ref 110), dE P "InvalidBoard" 499 (.ref 129), dE P "InvalidLooks" 524 (.ref 148), dE P "is_whole" 533 (.ref 157), dE P "is_between" 542 (.ref 164), dE P "are_wholes" 548 (.ref 169), dE P "divisor_of" 557 (.ref 176), dE P "lowest" 563 (.ref 181), dE P "sign_of" 570 (.ref 188), dE P "bits_in" 578 (.ref 195), dE P "ZERO" 583 (.ref 196), dE P "ONE" 586 (.ref 197), dE P "is_ratio" 593 (.ref 204), dE P "ratio" 601 (.ref 211), dE P "plus" 609 (.ref 218), dE P "minus" 617 (.ref 225), dE P "times" 625 (.ref 232), dE P "over" 633 (.ref 239), dE P "power" 644 (.ref 246), dE P "total_of" 653 (.ref 253), dE P "is_below" 661 (.ref 260), dE P "side_of_two" 669 (.ref 267), dE P "common_low" 678 (.ref 274), dE P "made_whole" 684 (.ref 279), dE P "trimmed" 694 (.ref 286), dE P "poly_plus" 700 (.ref 291), dE P "poly_scaled" 706 (.ref 296), dE P "poly_minus" 714 (.ref 303), dE P "poly_times" 727 (.ref 310), dE P "poly_up" 735 (.ref 317), dE P "slope_of" 741 (.ref 322), dE P "formed" 748 (.ref 329), dE P "polys_of" 754 (.ref 334), dE P "number_at" 765 (.ref 341), dE P "sign_at" 773 (.ref 348), dE P "divided" 779 (.ref 353), dE P "common_part" 787 (.ref 360), dE P "single_roots" 795 (.ref 367), dE P "without_nought" 803 (.ref 374), dE P "chain_of" 813 (.ref 381), dE P "changes_at" 819 (.ref 386), dE P "bounds_of" 825 (.ref 391), dE P "parting" 835 (.ref 398), dE P "spans_of" 853 (.ref 405), dE P "looks_of" 859 (.ref 410), dE P "row_of" 868 (.ref 417), dE P "SIZES" 876 (.ref 418), dE P "is_amount" 883 (.ref 425), dE P "is_carrier" 889 (.ref 430), dE P "check_carrier" 896 (.ref 437), dE P "check_strength" 903 (.ref 444), dE P "seat_count" 910 (.ref 451), dE P "has_guest" 919 (.ref 458), dE P "with_seats" 925 (.ref 463), dE P "counts_in" 936 (.ref 470), dE P "counts_by" 943 (.ref 477), dE P "split_by" 949 (.ref 482), dE P "terms_at" 960 (.ref 489), dE P "row_at" 968 (.ref 496), dE P "mean_of" 974 (.ref 501), dE P "rising_of" 987 (.ref 508), dE P "bit_of" 998 (.ref 515), dE P "is_free" 1007 (.ref 522), dE P "free_standings" 1013 (.ref 527), dE P "link_over" 1026 (.ref 534), dE P "seat_pairs" 1032 (.ref 539), dE P "all_links" 1038 (.ref 544), dE P "weights_at" 1053 (.ref 551), dE P "share_of" 1059 (.ref 556), dE P "pull_of" 1073 (.ref 563), dE P "shunned_link" 1083 (.ref 570), dE P "leaning_strengths" 1096 (.ref 577), dE P "lowering" 1109 (.ref 584), dE P "fill_gap" 1121 (.ref 591), dE P "bars" 1134 (.ref 598), dE P "barring" 1144 (.ref 605), dE P "MOST_PAIRS" 1148 (.int 3 1147), dE P "MOST_SEATS_baths" 1150 (.int 6 1149), dE P "is_pair" 1157 (.ref 612), dE P "wrong_pair" 1167 (.ref 619), dE P "is_bath" 1174 (.ref 626), dE P "bound_by" 1180 (.ref 631), dE P "bound_polys" 1194 (.ref 638), dE P "bound_gap" 1200 (.ref 643), dE P "BOARD_SIZES" 1206 (.ref 644), dE P "SORT_A" 1208 (.int 1 1207), dE P "SORT_B" 1210 (.int 2 1209), dE P "is_board" 1216 (.ref 649), dE P "check_board" 1223 (.ref 656), dE P "board_count" 1230 (.ref 663), dE P "many_of" 1239 (.ref 670), dE P "rows_beside" 1255 (.ref 677), dE P "counted" 1261 (.ref 682), dE P "push_poly" 1272 (.ref 689), dE P "fills_by" 1284 (.ref 696), dE P "check_both_strengths" 1293 (.ref 703), dE P "push" 1304 (.ref 710), dE P "push_row" 1312 (.ref 717), dE P "is_share" 1321 (.ref 724), dE P "MOST_LOOKS" 1325 (.int 4 1324), dE P "MOST_OF_LOOKS" 1327 (.int 5 1326), dE P "check_look_seats" 1334 (.ref 731), dE P "is_look_for" 1342 (.ref 738), dE P "wrong_look" 1352 (.ref 745), dE P "are_looks" 1360 (.ref 752), dE P "check_looks" 1369 (.ref 759), dE P "are_shares" 1375 (.ref 764), dE P "inequalities_of" 1381 (.ref 769), dE P "is_fitting" 1387 (.ref 774), dE P "PLACES" 1393 (.ref 775), dE P "STEPS" 1398 (.ref 778), dE P "link_between" 1404 (.ref 783), dE P "links_on" 1421 (.ref 790), dE P "low_link" 1429 (.ref 797), dE P "board_links" 1436 (.ref 804), dE P "keeps_apart" 1443 (.ref 811), dE P "powers_of" 1457 (.ref 818), dE P "table_of" 1463 (.ref 823), dE P "Squares" 1520 (.ref 857)]) 133, dN⟩),
  (40, ⟨.none, none, .fields (dA [.int 3 0, .int 0 0, .ref 48, .int 5 0, .int 0 0, .ref 61, .int 9 0, .int 0 0, .ref 80, .int 13 0, .int 0 0, .ref 99, .int 17 0, .int 0 0, .ref 118, .int 21 0, .int 0 0, .ref 137, .int 26 0, .int 0 0, .ref 156, .int 28 0, .int 0 0, .ref 163, .int 30 0, .int 0 0, .ref 168, .int 32 0, .int 0 0, .ref 175, .int 37 0, .int 0 0, .ref 180, .int 40 0, .int 0 0, .ref 187, .int 42 0, .int 0 0, .ref 194, .int 50 0, .int 0 0, .ref 203, .int 52 0, .int 0 0, .ref 210, .int 54 0, .int 0 0, .ref 217, .int 56 0, .int 0 0, .ref 224, .int 58 0, .int 0 0, .ref 231, .int 60 0, .int 0 0, .ref 238, .int 62 0, .int 0 0, .ref 245, .int 67 0, .int 0 0, .ref 252, .int 72 0, .int 0 0, .ref 259, .int 74 0, .int 0 0, .ref 266, .int 76 0, .int 0 0, .ref 273, .int 81 0, .int 0 0, .ref 278, .int 84 0, .int 0 0, .ref 285, .int 89 0, .int 0 0, .ref 290, .int 93 0, .int 0 0, .ref 295, .int 95 0, .int 0 0, .ref 302, .int 97 0, .int 0 0, .ref 309, .int 103 0, .int 0 0, .ref 316, .int 105 0, .int 0 0, .ref 321, .int 107 0, .int 0 0, .ref 328, .int 109 0, .int 0 0, .ref 333, .int 112 0, .int 0 0, .ref 340, .int 117 0, .int 0 0, .ref 347, .int 119 0, .int 0 0, .ref 352, .int 127 0, .int 0 0, .ref 359, .int 131 0, .int 0 0, .ref 366, .int 134 0, .int 0 0, .ref 373, .int 139 0, .int 0 0, .ref 380, .int 145 0, .int 0 0, .ref 385, .int 148 0, .int 0 0, .ref 390, .int 151 0, .int 0 0, .ref 397, .int 156 0, .int 0 0, .ref 404, .int 170 0, .int 0 0, .ref 409, .int 175 0, .int 0 0, .ref 416, .int 186 0, .int 0 0, .ref 424, .int 188 0, .int 0 0, .ref 429, .int 192 0, .int 0 0, .ref 436, .int 195 0, .int 0 0, .ref 443, .int 198 0, .int 0 0, .ref 450, .int 200 0, .int 0 0, .ref 457, .int 204 0, .int 0 0, .ref 462, .int 206 0, .int 0 0, .ref 469, .int 212 0, .int 0 0, .ref 476, .int 214 0, .int 0 0, .ref 481, .int 218 0, .int 0 0, .ref 488, .int 224 0, .int 0 0, .ref 495, .int 226 0, .int 0 0, .ref 500, .int 230 0, .int 0 0, .ref 507, .int 235 0, .int 0 0, .ref 514, .int 240 0, .int 0 0, .ref 521, .int 242 0, .int 0 0, .ref 526, .int 244 0, .int 0 0, .ref 533, .int 248 0, .int 0 0, .ref 538, .int 251 0, .int 0 0, .ref 543, .int 257 0, .int 0 0, .ref 550, .int 264 0, .int 0 0, .ref 555, .int 266 0, .int 0 0, .ref 562, .int 271 0, .int 0 0, .ref 569, .int 277 0, .int 0 0, .ref 576, .int 283 0, .int 0 0, .ref 583, .int 296 0, .int 0 0, .ref 590, .int 300 0, .int 0 0, .ref 597, .int 303 0, .int 0 0, .ref 604, .int 312 0, .int 0 0, .ref 611, .int 314 0, .int 0 0, .ref 618, .int 323 0, .int 0 0, .ref 625, .int 325 0, .int 0 0, .ref 630, .int 327 0, .int 0 0, .ref 637, .int 334 0, .int 0 0, .ref 642, .int 344 0, .int 0 0, .ref 648, .int 348 0, .int 0 0, .ref 655, .int 351 0, .int 0 0, .ref 662, .int 353 0, .int 0 0, .ref 669, .int 360 0, .int 0 0, .ref 676, .int 369 0, .int 0 0, .ref 681, .int 371 0, .int 0 0, .ref 688, .int 375 0, .int 0 0, .ref 695, .int 379 0, .int 0 0, .ref 702, .int 383 0, .int 0 0, .ref 709, .int 387 0, .int 0 0, .ref 716, .int 392 0, .int 0 0, .ref 723, .int 397 0, .int 0 0, .ref 730, .int 400 0, .int 0 0, .ref 737, .int 406 0, .int 0 0, .ref 744, .int 413 0, .int 0 0, .ref 751, .int 415 0, .int 0 0, .ref 758, .int 420 0, .int 0 0, .ref 763, .int 424 0, .int 0 0, .ref 768, .int 432 0, .int 0 0, .ref 773, .int 443 0, .int 0 0, .ref 782, .int 449 0, .int 0 0, .ref 789, .int 461 0, .int 0 0, .ref 796, .int 466 0, .int 0 0, .ref 803, .int 469 0, .int 0 0, .ref 810, .int 473 0, .int 0 0, .ref 817, .int 481 0, .int 0 0, .ref 822, .int 485 0, .int 0 0, .ref 829]), dN⟩)]
def tr6 (P : Params) : PySem.W.BT := setAll (ch6 P) (insAll (ob6 P) (tr5 P) 824)
def st6 (w : World) (os : OsState) : PySem.W.SharedT := ⟨tr6 w.params, 862, {}, Array.mk [], {}, 1521, os⟩
def ob7_0 (P : Params) : List Obj := [
  ⟨.type "tuple", none, .seq (dA []) 0, dN⟩,
  ⟨.none, none, .fields (dA []), dN⟩,
  ⟨.type "tuple", none, .seq (dA [.str "carrier" 1526, .str "found" 1527]) 0, dN⟩,
  ⟨.type "tuple", none, .seq (dA []) 0, dN⟩,
  ⟨.none, none, .func (dF "certify_draws" "certify_draws" (topS 140) 0 [] (.none) (.none) (.none) (.none) (none) (.none) (.none) 0), dN⟩,
  ⟨.type "code", none, .fields (dA [.str "certify_draws" 1523, .str "certify_draws" 1524, .str "/claim/cut.py" 1525, .int 524 0, .int 1 0, .int 0 0, .int 0 0, .int 3 0, .ref 862, .bool true, .int 374 0, .ref 863, .none, .ref 864, .ref 865, .ref 866, .int 1528 0, .int 524 0, .str "/claim/cut.py" 1529]), dN⟩,
  ⟨.type "function", none, .func (dF "certify_draws" "certify_draws" (topS 140) 3 [] (.none) (.none) (.none) (.str "guestseats.certificates" 1521) (none) (.ref 867) (.none) 0), dN⟩,
  ⟨.type "tuple", none, .seq (dA []) 0, dN⟩,
  ⟨.none, none, .fields (dA []), dN⟩,
  ⟨.type "tuple", none, .seq (dA [.str "claim" 1536, .str "paper" 1537, .str "word" 1538, .str "carrier" 1539, .str "other" 1540, .str "mine" 1541, .str "its" 1542, .str "left" 1543, .str "right" 1544]) 0, dN⟩,
  ⟨.type "tuple", none, .seq (dA []) 0, dN⟩,
  ⟨.none, none, .func (dF "shows_two" "shows_two" (topS 142) 0 [] (.none) (.none) (.none) (.none) (none) (.none) (.none) 0), dN⟩,
  ⟨.type "code", none, .fields (dA [.str "shows_two" 1533, .str "shows_two" 1534, .str "/claim/cut.py" 1535, .int 530 0, .int 2 0, .int 0 0, .int 0 0, .int 3 0, .ref 869, .bool true, .int 374 0, .ref 870, .none, .ref 871, .ref 872, .ref 873, .int 1545 0, .int 530 0, .str "/claim/cut.py" 1546]), dN⟩,
  ⟨.type "function", none, .func (dF "shows_two" "shows_two" (topS 142) 3 [] (.none) (.none) (.none) (.str "guestseats.checkone" 1531) (none) (.ref 874) (.none) 0), dN⟩,
  ⟨.type "tuple", none, .seq (dA []) 0, dN⟩,
  ⟨.none, none, .fields (dA []), dN⟩,
  ⟨.type "tuple", none, .seq (dA [.str "claim" 1551, .str "paper" 1552, .str "word" 1553, .str "carrier" 1554, .str "number" 1555, .str "row" 1556, .str "low" 1557, .str "high" 1558]) 0, dN⟩,
  ⟨.type "tuple", none, .seq (dA []) 0, dN⟩,
  ⟨.none, none, .func (dF "shows_likeliest" "shows_likeliest" (topS 143) 0 [] (.none) (.none) (.none) (.none) (none) (.none) (.none) 0), dN⟩,
  ⟨.type "code", none, .fields (dA [.str "shows_likeliest" 1548, .str "shows_likeliest" 1549, .str "/claim/cut.py" 1550, .int 541 0, .int 2 0, .int 0 0, .int 0 0, .int 3 0, .ref 876, .bool true, .int 374 0, .ref 877, .none, .ref 878, .ref 879, .ref 880, .int 1559 0, .int 541 0, .str "/claim/cut.py" 1560]), dN⟩,
  ⟨.type "function", none, .func (dF "shows_likeliest" "shows_likeliest" (topS 143) 3 [] (.none) (.none) (.none) (.str "guestseats.checkone" 1531) (none) (.ref 881) (.none) 0), dN⟩,
  ⟨.type "tuple", none, .seq (dA []) 0, dN⟩,
  ⟨.none, none, .fields (dA []), dN⟩,
  ⟨.type "tuple", none, .seq (dA [.str "claim" 1565, .str "paper" 1566, .str "word" 1567, .str "carrier" 1568, .str "seat" 1569, .str "form" 1570]) 0, dN⟩,
  ⟨.type "tuple", none, .seq (dA []) 0, dN⟩,
  ⟨.none, none, .func (dF "shows_seat" "shows_seat" (topS 144) 0 [] (.none) (.none) (.none) (.none) (none) (.none) (.none) 0), dN⟩,
  ⟨.type "code", none, .fields (dA [.str "shows_seat" 1562, .str "shows_seat" 1563, .str "/claim/cut.py" 1564, .int 550 0, .int 2 0, .int 0 0, .int 0 0, .int 3 0, .ref 883, .bool true, .int 374 0, .ref 884, .none, .ref 885, .ref 886, .ref 887, .int 1571 0, .int 550 0, .str "/claim/cut.py" 1572]), dN⟩,
  ⟨.type "function", none, .func (dF "shows_seat" "shows_seat" (topS 144) 3 [] (.none) (.none) (.none) (.str "guestseats.checkone" 1531) (none) (.ref 888) (.none) 0), dN⟩,
  ⟨.type "tuple", none, .seq (dA []) 0, dN⟩,
  ⟨.none, none, .fields (dA []), dN⟩,
  ⟨.type "tuple", none, .seq (dA [.str "claim" 1577, .str "paper" 1578, .str "word" 1579, .str "carrier" 1580, .str "table" 1581, .str "found" 1582, .str "row" 1583, .str "left" 1584, .str "each" 1585, .str "right" 1586]) 0, dN⟩,
  ⟨.type "tuple", none, .seq (dA []) 0, dN⟩,
  ⟨.none, none, .func (dF "shows_unlinked" "shows_unlinked" (topS 145) 0 [] (.none) (.none) (.none) (.none) (none) (.none) (.none) 0), dN⟩,
  ⟨.type "code", none, .fields (dA [.str "shows_unlinked" 1574, .str "shows_unlinked" 1575, .str "/claim/cut.py" 1576, .int 556 0, .int 2 0, .int 0 0, .int 0 0, .int 3 0, .ref 890, .bool true, .int 374 0, .ref 891, .none, .ref 892, .ref 893, .ref 894, .int 1587 0, .int 556 0, .str "/claim/cut.py" 1588]), dN⟩,
  ⟨.type "function", none, .func (dF "shows_unlinked" "shows_unlinked" (topS 145) 3 [] (.none) (.none) (.none) (.str "guestseats.checkone" 1531) (none) (.ref 895) (.none) 0), dN⟩,
  ⟨.type "tuple", none, .seq (dA []) 0, dN⟩,
  ⟨.none, none, .fields (dA []), dN⟩,
  ⟨.none, none, .func (dF "is_lowering" "is_lowering" (topS 146) 0 [] (.none) (.none) (.none) (.none) (none) (.none) (.none) 0), dN⟩,
  ⟨.type "code", none, .fields (dA [.str "is_lowering" 1590, .str "is_lowering" 1591, .str "/claim/cut.py" 1592, .int 568 0, .int 2 0, .int 0 0, .int 0 0, .int 3 0, .ref 897, .bool true, .int 374 0, .ref 898, .none, .none, .none, .ref 899, .int 1593 0, .int 568 0, .str "/claim/cut.py" 1594]), dN⟩,
  ⟨.type "function", none, .func (dF "is_lowering" "is_lowering" (topS 146) 3 [] (.none) (.none) (.none) (.str "guestseats.checkone" 1531) (none) (.ref 900) (.none) 0), dN⟩]
def ob7_1 (P : Params) : List Obj := [
  ⟨.type "tuple", none, .seq (dA []) 0, dN⟩,
  ⟨.none, none, .fields (dA []), dN⟩,
  ⟨.none, none, .func (dF "shows_draws" "shows_draws" (topS 147) 0 [] (.none) (.none) (.none) (.none) (none) (.none) (.none) 0), dN⟩,
  ⟨.type "code", none, .fields (dA [.str "shows_draws" 1596, .str "shows_draws" 1597, .str "/claim/cut.py" 1598, .int 576 0, .int 2 0, .int 0 0, .int 0 0, .int 3 0, .ref 902, .bool true, .int 374 0, .ref 903, .none, .none, .none, .ref 904, .int 1599 0, .int 576 0, .str "/claim/cut.py" 1600]), dN⟩,
  ⟨.type "function", none, .func (dF "shows_draws" "shows_draws" (topS 147) 3 [] (.none) (.none) (.none) (.str "guestseats.checkone" 1531) (none) (.ref 905) (.none) 0), dN⟩,
  ⟨.type "tuple", none, .seq (dA []) 0, dN⟩,
  ⟨.none, none, .fields (dA []), dN⟩,
  ⟨.type "tuple", none, .seq (dA [.str "claim" 1607, .str "paper" 1608, .str "word" 1609, .str "bath" 1610, .str "other" 1611]) 0, dN⟩,
  ⟨.type "tuple", none, .seq (dA []) 0, dN⟩,
  ⟨.none, none, .func (dF "shows_baths" "shows_baths" (topS 149) 0 [] (.none) (.none) (.none) (.none) (none) (.none) (.none) 0), dN⟩,
  ⟨.type "code", none, .fields (dA [.str "shows_baths" 1604, .str "shows_baths" 1605, .str "/claim/cut.py" 1606, .int 585 0, .int 2 0, .int 0 0, .int 0 0, .int 3 0, .ref 907, .bool true, .int 374 0, .ref 908, .none, .ref 909, .ref 910, .ref 911, .int 1612 0, .int 585 0, .str "/claim/cut.py" 1613]), dN⟩,
  ⟨.type "function", none, .func (dF "shows_baths" "shows_baths" (topS 149) 3 [] (.none) (.none) (.none) (.str "guestseats.checkothers" 1602) (none) (.ref 912) (.none) 0), dN⟩,
  ⟨.type "tuple", none, .seq (dA []) 0, dN⟩,
  ⟨.none, none, .fields (dA []), dN⟩,
  ⟨.none, none, .func (dF "shows_apart" "shows_apart" (topS 150) 0 [] (.none) (.none) (.none) (.none) (none) (.none) (.none) 0), dN⟩,
  ⟨.type "code", none, .fields (dA [.str "shows_apart" 1615, .str "shows_apart" 1616, .str "/claim/cut.py" 1617, .int 590 0, .int 2 0, .int 0 0, .int 0 0, .int 3 0, .ref 914, .bool true, .int 374 0, .ref 915, .none, .none, .none, .ref 916, .int 1618 0, .int 590 0, .str "/claim/cut.py" 1619]), dN⟩,
  ⟨.type "function", none, .func (dF "shows_apart" "shows_apart" (topS 150) 3 [] (.none) (.none) (.none) (.str "guestseats.checkothers" 1602) (none) (.ref 917) (.none) 0), dN⟩,
  ⟨.type "tuple", none, .seq (dA []) 0, dN⟩,
  ⟨.none, none, .fields (dA []), dN⟩,
  ⟨.type "tuple", none, .seq (dA [.str "claim" 1624, .str "paper" 1625, .str "word" 1626, .str "board" 1627, .str "strength" 1628]) 0, dN⟩,
  ⟨.type "tuple", none, .seq (dA []) 0, dN⟩,
  ⟨.none, none, .func (dF "shows_helped" "shows_helped" (topS 151) 0 [] (.none) (.none) (.none) (.none) (none) (.none) (.none) 0), dN⟩,
  ⟨.type "code", none, .fields (dA [.str "shows_helped" 1621, .str "shows_helped" 1622, .str "/claim/cut.py" 1623, .int 597 0, .int 2 0, .int 0 0, .int 0 0, .int 3 0, .ref 919, .bool true, .int 374 0, .ref 920, .none, .ref 921, .ref 922, .ref 923, .int 1629 0, .int 597 0, .str "/claim/cut.py" 1630]), dN⟩,
  ⟨.type "function", none, .func (dF "shows_helped" "shows_helped" (topS 151) 3 [] (.none) (.none) (.none) (.str "guestseats.checkothers" 1602) (none) (.ref 924) (.none) 0), dN⟩,
  ⟨.type "tuple", none, .seq (dA []) 0, dN⟩,
  ⟨.none, none, .fields (dA []), dN⟩,
  ⟨.none, none, .func (dF "are_weights" "are_weights" (topS 152) 0 [] (.none) (.none) (.none) (.none) (none) (.none) (.none) 0), dN⟩,
  ⟨.type "code", none, .fields (dA [.str "are_weights" 1632, .str "are_weights" 1633, .str "/claim/cut.py" 1634, .int 602 0, .int 2 0, .int 0 0, .int 0 0, .int 3 0, .ref 926, .bool true, .int 374 0, .ref 927, .none, .none, .none, .ref 928, .int 1635 0, .int 602 0, .str "/claim/cut.py" 1636]), dN⟩,
  ⟨.type "function", none, .func (dF "are_weights" "are_weights" (topS 152) 3 [] (.none) (.none) (.none) (.str "guestseats.checkothers" 1602) (none) (.ref 929) (.none) 0), dN⟩,
  ⟨.type "tuple", none, .seq (dA []) 0, dN⟩,
  ⟨.none, none, .fields (dA []), dN⟩,
  ⟨.type "tuple", none, .seq (dA [.str "looks" 1641, .str "weights" 1642, .str "number" 1643, .str "strength" 1644, .str "found" 1645, .str "many" 1646, .str "look" 1647, .str "pair" 1648, .str "both" 1649]) 0, dN⟩,
  ⟨.type "tuple", none, .seq (dA []) 0, dN⟩,
  ⟨.none, none, .func (dF "sum_for" "sum_for" (topS 153) 0 [] (.none) (.none) (.none) (.none) (none) (.none) (.none) 0), dN⟩,
  ⟨.type "code", none, .fields (dA [.str "sum_for" 1638, .str "sum_for" 1639, .str "/claim/cut.py" 1640, .int 611 0, .int 4 0, .int 0 0, .int 0 0, .int 3 0, .ref 931, .bool true, .int 374 0, .ref 932, .none, .ref 933, .ref 934, .ref 935, .int 1650 0, .int 611 0, .str "/claim/cut.py" 1651]), dN⟩,
  ⟨.type "function", none, .func (dF "sum_for" "sum_for" (topS 153) 3 [] (.none) (.none) (.none) (.str "guestseats.checkothers" 1602) (none) (.ref 936) (.none) 0), dN⟩,
  ⟨.type "tuple", none, .seq (dA []) 0, dN⟩,
  ⟨.none, none, .fields (dA []), dN⟩,
  ⟨.none, none, .func (dF "shows_looks" "shows_looks" (topS 154) 0 [] (.none) (.none) (.none) (.none) (none) (.none) (.none) 0), dN⟩,
  ⟨.type "code", none, .fields (dA [.str "shows_looks" 1653, .str "shows_looks" 1654, .str "/claim/cut.py" 1655, .int 617 0, .int 2 0, .int 0 0, .int 0 0, .int 3 0, .ref 938, .bool true, .int 374 0, .ref 939, .none, .none, .none, .ref 940, .int 1656 0, .int 617 0, .str "/claim/cut.py" 1657]), dN⟩]
def ob7_2 (P : Params) : List Obj := [
  ⟨.type "function", none, .func (dF "shows_looks" "shows_looks" (topS 154) 3 [] (.none) (.none) (.none) (.str "guestseats.checkothers" 1602) (none) (.ref 941) (.none) 0), dN⟩,
  ⟨.type "tuple", none, .seq (dA []) 0, dN⟩,
  ⟨.none, none, .fields (dA []), dN⟩,
  ⟨.type "tuple", none, .seq (dA [.str "shares" 1662, .str "strength" 1663, .str "top" 1664, .str "low" 1665, .str "number" 1666, .str "each" 1667, .str "part" 1668]) 0, dN⟩,
  ⟨.type "tuple", none, .seq (dA []) 0, dN⟩,
  ⟨.none, none, .func (dF "mean_by" "mean_by" (topS 155) 0 [] (.none) (.none) (.none) (.none) (none) (.none) (.none) 0), dN⟩,
  ⟨.type "code", none, .fields (dA [.str "mean_by" 1659, .str "mean_by" 1660, .str "/claim/cut.py" 1661, .int 624 0, .int 2 0, .int 0 0, .int 0 0, .int 3 0, .ref 943, .bool true, .int 374 0, .ref 944, .none, .ref 945, .ref 946, .ref 947, .int 1669 0, .int 624 0, .str "/claim/cut.py" 1670]), dN⟩,
  ⟨.type "function", none, .func (dF "mean_by" "mean_by" (topS 155) 3 [] (.none) (.none) (.none) (.str "guestseats.checkothers" 1602) (none) (.ref 948) (.none) 0), dN⟩,
  ⟨.type "tuple", none, .seq (dA []) 0, dN⟩,
  ⟨.none, none, .fields (dA []), dN⟩,
  ⟨.type "tuple", none, .seq (dA [.str "claim" 1675, .str "weights" 1676, .str "word" 1677, .str "seats" 1678, .str "looks" 1679, .str "strength" 1680, .str "level" 1681, .str "number" 1682, .str "room" 1683]) 0, dN⟩,
  ⟨.type "tuple", none, .seq (dA []) 0, dN⟩,
  ⟨.none, none, .func (dF "are_bounding" "are_bounding" (topS 156) 0 [] (.none) (.none) (.none) (.none) (none) (.none) (.none) 0), dN⟩,
  ⟨.type "code", none, .fields (dA [.str "are_bounding" 1672, .str "are_bounding" 1673, .str "/claim/cut.py" 1674, .int 630 0, .int 2 0, .int 0 0, .int 0 0, .int 3 0, .ref 950, .bool true, .int 374 0, .ref 951, .none, .ref 952, .ref 953, .ref 954, .int 1684 0, .int 630 0, .str "/claim/cut.py" 1685]), dN⟩,
  ⟨.type "function", none, .func (dF "are_bounding" "are_bounding" (topS 156) 3 [] (.none) (.none) (.none) (.str "guestseats.checkothers" 1602) (none) (.ref 955) (.none) 0), dN⟩,
  ⟨.type "tuple", none, .seq (dA []) 0, dN⟩,
  ⟨.none, none, .fields (dA []), dN⟩,
  ⟨.type "tuple", none, .seq (dA [.str "claim" 1690, .str "paper" 1691, .str "word" 1692, .str "seats" 1693, .str "looks" 1694, .str "strength" 1695, .str "level" 1696, .str "side" 1697]) 0, dN⟩,
  ⟨.type "tuple", none, .seq (dA []) 0, dN⟩,
  ⟨.none, none, .func (dF "shows_fills" "shows_fills" (topS 157) 0 [] (.none) (.none) (.none) (.none) (none) (.none) (.none) 0), dN⟩,
  ⟨.type "code", none, .fields (dA [.str "shows_fills" 1687, .str "shows_fills" 1688, .str "/claim/cut.py" 1689, .int 637 0, .int 2 0, .int 0 0, .int 0 0, .int 3 0, .ref 957, .bool true, .int 374 0, .ref 958, .none, .ref 959, .ref 960, .ref 961, .int 1698 0, .int 637 0, .str "/claim/cut.py" 1699]), dN⟩,
  ⟨.type "function", none, .func (dF "shows_fills" "shows_fills" (topS 157) 3 [] (.none) (.none) (.none) (.str "guestseats.checkothers" 1602) (none) (.ref 962) (.none) 0), dN⟩,
  ⟨.type "tuple", none, .seq (dA []) 0, dN⟩,
  ⟨.none, none, .fields (dA []), dN⟩,
  ⟨.type "tuple", none, .seq (dA [.str "claim" 1708]) 0, dN⟩,
  ⟨.type "tuple", none, .seq (dA []) 0, dN⟩,
  ⟨.none, none, .func (dF "is_of_carriers" "is_of_carriers" (topS 160) 0 [] (.none) (.none) (.none) (.none) (none) (.none) (.none) 0), dN⟩,
  ⟨.type "code", none, .fields (dA [.str "is_of_carriers" 1705, .str "is_of_carriers" 1706, .str "/claim/cut.py" 1707, .int 647 0, .int 1 0, .int 0 0, .int 0 0, .int 3 0, .ref 964, .bool true, .int 374 0, .ref 965, .none, .ref 966, .ref 967, .ref 968, .int 1709 0, .int 647 0, .str "/claim/cut.py" 1710]), dN⟩,
  ⟨.type "function", none, .func (dF "is_of_carriers" "is_of_carriers" (topS 160) 3 [] (.none) (.none) (.none) (.str "guestseats.claims" 1701) (none) (.ref 969) (.none) 0), dN⟩,
  ⟨.type "tuple", none, .seq (dA []) 0, dN⟩,
  ⟨.none, none, .fields (dA []), dN⟩,
  ⟨.type "tuple", none, .seq (dA [.str "claim" 1715, .str "word" 1716]) 0, dN⟩,
  ⟨.type "tuple", none, .seq (dA []) 0, dN⟩,
  ⟨.none, none, .func (dF "is_of_one" "is_of_one" (topS 161) 0 [] (.none) (.none) (.none) (.none) (none) (.none) (.none) 0), dN⟩,
  ⟨.type "code", none, .fields (dA [.str "is_of_one" 1712, .str "is_of_one" 1713, .str "/claim/cut.py" 1714, .int 649 0, .int 1 0, .int 0 0, .int 0 0, .int 3 0, .ref 971, .bool true, .int 374 0, .ref 972, .none, .ref 973, .ref 974, .ref 975, .int 1717 0, .int 649 0, .str "/claim/cut.py" 1718]), dN⟩,
  ⟨.type "function", none, .func (dF "is_of_one" "is_of_one" (topS 161) 3 [] (.none) (.none) (.none) (.str "guestseats.claims" 1701) (none) (.ref 976) (.none) 0), dN⟩,
  ⟨.type "tuple", none, .seq (dA []) 0, dN⟩,
  ⟨.none, none, .fields (dA []), dN⟩,
  ⟨.type "tuple", none, .seq (dA [.str "claim" 1723, .str "word" 1724]) 0, dN⟩,
  ⟨.type "tuple", none, .seq (dA []) 0, dN⟩]
def ob7_3 (P : Params) : List Obj := [
  ⟨.none, none, .func (dF "is_of_others" "is_of_others" (topS 162) 0 [] (.none) (.none) (.none) (.none) (none) (.none) (.none) 0), dN⟩,
  ⟨.type "code", none, .fields (dA [.str "is_of_others" 1720, .str "is_of_others" 1721, .str "/claim/cut.py" 1722, .int 658 0, .int 1 0, .int 0 0, .int 0 0, .int 3 0, .ref 978, .bool true, .int 374 0, .ref 979, .none, .ref 980, .ref 981, .ref 982, .int 1725 0, .int 658 0, .str "/claim/cut.py" 1726]), dN⟩,
  ⟨.type "function", none, .func (dF "is_of_others" "is_of_others" (topS 162) 3 [] (.none) (.none) (.none) (.str "guestseats.claims" 1701) (none) (.ref 983) (.none) 0), dN⟩,
  ⟨.type "tuple", none, .seq (dA []) 0, dN⟩,
  ⟨.none, none, .fields (dA []), dN⟩,
  ⟨.type "tuple", none, .seq (dA [.str "claim" 1731]) 0, dN⟩,
  ⟨.type "tuple", none, .seq (dA []) 0, dN⟩,
  ⟨.none, none, .func (dF "is_of_looks" "is_of_looks" (topS 163) 0 [] (.none) (.none) (.none) (.none) (none) (.none) (.none) 0), dN⟩,
  ⟨.type "code", none, .fields (dA [.str "is_of_looks" 1728, .str "is_of_looks" 1729, .str "/claim/cut.py" 1730, .int 665 0, .int 1 0, .int 0 0, .int 0 0, .int 3 0, .ref 985, .bool true, .int 374 0, .ref 986, .none, .ref 987, .ref 988, .ref 989, .int 1732 0, .int 665 0, .str "/claim/cut.py" 1733]), dN⟩,
  ⟨.type "function", none, .func (dF "is_of_looks" "is_of_looks" (topS 163) 3 [] (.none) (.none) (.none) (.str "guestseats.claims" 1701) (none) (.ref 990) (.none) 0), dN⟩,
  ⟨.type "tuple", none, .seq (dA []) 0, dN⟩,
  ⟨.none, none, .fields (dA []), dN⟩,
  ⟨.type "tuple", none, .seq (dA [.str "claim" 1738, .str "word" 1739]) 0, dN⟩,
  ⟨.type "tuple", none, .seq (dA []) 0, dN⟩,
  ⟨.none, none, .func (dF "is_claim" "is_claim" (topS 164) 0 [] (.none) (.none) (.none) (.none) (none) (.none) (.none) 0), dN⟩,
  ⟨.type "code", none, .fields (dA [.str "is_claim" 1735, .str "is_claim" 1736, .str "/claim/cut.py" 1737, .int 671 0, .int 1 0, .int 0 0, .int 0 0, .int 3 0, .ref 992, .bool true, .int 374 0, .ref 993, .none, .ref 994, .ref 995, .ref 996, .int 1740 0, .int 671 0, .str "/claim/cut.py" 1741]), dN⟩,
  ⟨.type "function", none, .func (dF "is_claim" "is_claim" (topS 164) 3 [] (.none) (.none) (.none) (.str "guestseats.claims" 1701) (none) (.ref 997) (.none) 0), dN⟩,
  ⟨.type "tuple", none, .seq (dA []) 0, dN⟩,
  ⟨.none, none, .fields (dA []), dN⟩,
  ⟨.type "tuple", none, .seq (dA [.str "claim" 1748, .str "paper" 1749, .str "word" 1750]) 0, dN⟩,
  ⟨.type "tuple", none, .seq (dA []) 0, dN⟩,
  ⟨.none, none, .func (dF "shows_of_carriers" "shows_of_carriers" (topS 166) 0 [] (.none) (.none) (.none) (.none) (none) (.none) (.none) 0), dN⟩,
  ⟨.type "code", none, .fields (dA [.str "shows_of_carriers" 1745, .str "shows_of_carriers" 1746, .str "/claim/cut.py" 1747, .int 687 0, .int 2 0, .int 0 0, .int 0 0, .int 3 0, .ref 999, .bool true, .int 374 0, .ref 1000, .none, .ref 1001, .ref 1002, .ref 1003, .int 1751 0, .int 687 0, .str "/claim/cut.py" 1752]), dN⟩,
  ⟨.type "function", none, .func (dF "shows_of_carriers" "shows_of_carriers" (topS 166) 3 [] (.none) (.none) (.none) (.str "guestseats.checker" 1743) (none) (.ref 1004) (.none) 0), dN⟩,
  ⟨.type "tuple", none, .seq (dA []) 0, dN⟩,
  ⟨.none, none, .fields (dA []), dN⟩,
  ⟨.type "tuple", none, .seq (dA [.str "claim" 1757, .str "paper" 1758, .str "word" 1759]) 0, dN⟩,
  ⟨.type "tuple", none, .seq (dA []) 0, dN⟩,
  ⟨.none, none, .func (dF "shows_of_others" "shows_of_others" (topS 167) 0 [] (.none) (.none) (.none) (.none) (none) (.none) (.none) 0), dN⟩,
  ⟨.type "code", none, .fields (dA [.str "shows_of_others" 1754, .str "shows_of_others" 1755, .str "/claim/cut.py" 1756, .int 698 0, .int 2 0, .int 0 0, .int 0 0, .int 3 0, .ref 1006, .bool true, .int 374 0, .ref 1007, .none, .ref 1008, .ref 1009, .ref 1010, .int 1760 0, .int 698 0, .str "/claim/cut.py" 1761]), dN⟩,
  ⟨.type "function", none, .func (dF "shows_of_others" "shows_of_others" (topS 167) 3 [] (.none) (.none) (.none) (.str "guestseats.checker" 1743) (none) (.ref 1011) (.none) 0), dN⟩,
  ⟨.type "tuple", none, .seq (dA []) 0, dN⟩,
  ⟨.none, none, .fields (dA []), dN⟩,
  ⟨.type "tuple", none, .seq (dA [.str "claim" 1766, .str "paper" 1767, .str "found" 1768]) 0, dN⟩,
  ⟨.type "tuple", none, .seq (dA []) 0, dN⟩,
  ⟨.none, none, .func (dF "accepts" "accepts" (topS 168) 0 [] (.none) (.none) (.none) (.none) (none) (.none) (.none) 0), dN⟩,
  ⟨.type "code", none, .fields (dA [.str "accepts" 1763, .str "accepts" 1764, .str "/claim/cut.py" 1765, .int 707 0, .int 2 0, .int 0 0, .int 0 0, .int 3 0, .ref 1013, .bool true, .int 374 0, .ref 1014, .none, .ref 1015, .ref 1016, .ref 1017, .int 1769 0, .int 707 0, .str "/claim/cut.py" 1770]), dN⟩,
  ⟨.type "function", none, .func (dF "accepts" "accepts" (topS 168) 3 [] (.none) (.none) (.none) (.str "guestseats.checker" 1743) (none) (.ref 1018) (.none) 0), dN⟩,
  ⟨.type "tuple", none, .seq (dA []) 0, dN⟩,
  ⟨.none, none, .fields (dA []), dN⟩]
def ob7_4 (P : Params) : List Obj := [
  ⟨.type "tuple", none, .seq (dA [.str "_law_script" 1777, .str "_law_lap" 1778, .str "_law_mixed" 1779, .str "_law_cell" 1780]) 0, dN⟩,
  ⟨.type "tuple", none, .seq (dA []) 0, dN⟩,
  ⟨.none, none, .func (dF "_law_vat" "_law_vat" (topS 170) 0 [] (.none) (.none) (.none) (.none) (none) (.none) (.none) 0), dN⟩,
  ⟨.type "code", none, .fields (dA [.str "_law_vat" 1774, .str "_law_vat" 1775, .str "/claim/cut.py" 1776, .int 713 0, .int 2 0, .int 0 0, .int 0 0, .int 3 0, .ref 1020, .bool true, .int 374 0, .ref 1021, .none, .ref 1022, .ref 1023, .ref 1024, .int 1781 0, .int 713 0, .str "/claim/cut.py" 1782]), dN⟩,
  ⟨.type "function", none, .func (dF "_law_vat" "_law_vat" (topS 170) 3 [] (.none) (.none) (.none) (.str "law_guestseats_k37_whole_lowerings" 1772) (none) (.ref 1025) (.none) 0), dN⟩]
def ob7 (P : Params) : List Obj := ob7_0 P ++ ob7_1 P ++ ob7_2 P ++ ob7_3 P ++ ob7_4 P
def ch7 (P : Params) : List (Nat × Obj) := [
  (3, ⟨.type "dict", none, .dict (dB [dE P "__name__" 165 (.str "law_guestseats_k37_whole_lowerings" 1772), dE P "__doc__" 166 (.none), dE P "__package__" 167 (.none), dE P "__loader__" 168 (.builtin "__main__.__loader__#opaque"), dE P "__spec__" 169 (.none), dE P "__annotations__" 170 (.ref 6), dE P "__builtins__" 171 (.ref 4), dE P "__file__" 173 (.str "/claim/cut.py" 172), dE P "__cached__" 174 (.none), dE P "gcd" 370 (.builtin "math.gcd"), dE P "lcm" 373 (.builtin "math.lcm"), dE P "SeatError" 399 (.ref 52), dE P "InvalidStrength" 424 (.ref 72), dE P "InvalidCarrier" 449 (.ref 91), dE P "InvalidNumber" 474 (.ref 110), dE P "InvalidBoard" 499 (.ref 129), dE P "InvalidLooks" 524 (.ref 148), dE P "is_whole" 533 (.ref 157), dE P "is_between" 542 (.ref 164), dE P "are_wholes" 548 (.ref 169), dE P "divisor_of" 557 (.ref 176), dE P "lowest" 563 (.ref 181), dE P "sign_of" 570 (.ref 188), dE P "bits_in" 578 (.ref 195), dE P "ZERO" 583 (.ref 196), dE P "ONE" 586 (.ref 197), dE P "is_ratio" 593 (.ref 204), dE P "ratio" 601 (.ref 211), dE P "plus" 609 (.ref 218), dE P "minus" 617 (.ref 225), dE P "times" 625 (.ref 232), dE P "over" 633 (.ref 239), dE P "power" 644 (.ref 246), dE P "total_of" 653 (.ref 253), dE P "is_below" 661 (.ref 260), dE P "side_of_two" 669 (.ref 267), dE P "common_low" 678 (.ref 274), dE P "made_whole" 684 (.ref 279), dE P "trimmed" 694 (.ref 286), dE P "poly_plus" 700 (.ref 291), dE P "poly_scaled" 706 (.ref 296), dE P "poly_minus" 714 (.ref 303), dE P "poly_times" 727 (.ref 310), dE P "poly_up" 735 (.ref 317), dE P "slope_of" 741 (.ref 322), dE P "formed" 748 (.ref 329), dE P "polys_of" 754 (.ref 334), dE P "number_at" 765 (.ref 341), dE P "sign_at" 773 (.ref 348), dE P "divided" 779 (.ref 353), dE P "common_part" 787 (.ref 360), dE P "single_roots" 795 (.ref 367), dE P "without_nought" 803 (.ref 374), dE P "chain_of" 813 (.ref 381), dE P "changes_at" 819 (.ref 386), dE P "bounds_of" 825 (.ref 391), dE P "parting" 835 (.ref 398), dE P "spans_of" 853 (.ref 405), dE P "looks_of" 859 (.ref 410), dE P "row_of" 868 (.ref 417), dE P "SIZES" 876 (.ref 418), dE P "is_amount" 883 (.ref 425), dE P "is_carrier" 889 (.ref 430), dE P "check_carrier" 896 (.ref 437), dE P "check_strength" 903 (.ref 444), dE P "seat_count" 910 (.ref 451), dE P "has_guest" 919 (.ref 458), dE P "with_seats" 925 (.ref 463), dE P "counts_in" 936 (.ref 470), dE P "counts_by" 943 (.ref 477), dE P "split_by" 949 (.ref 482), dE P "terms_at" 960 (.ref 489), dE P "row_at" 968 (.ref 496), dE P "mean_of" 974 (.ref 501), dE P "rising_of" 987 (.ref 508), dE P "bit_of" 998 (.ref 515), dE P "is_free" 1007 (.ref 522), dE P "free_standings" 1013 (.ref 527), dE P "link_over" 1026 (.ref 534), dE P "seat_pairs" 1032 (.ref 539), dE P "all_links" 1038 (.ref 544), dE P "weights_at" 1053 (.ref 551), dE P "share_of" 1059 (.ref 556), dE P "pull_of" 1073 (.ref 563), dE P "shunned_link" 1083 (.ref 570), dE P "leaning_strengths" 1096 (.ref 577), dE P "lowering" 1109 (.ref 584), dE P "fill_gap" 1121 (.ref 591), dE P "bars" 1134 (.ref 598), dE P "barring" 1144 (.ref 605), dE P "MOST_PAIRS" 1148 (.int 3 1147), dE P "MOST_SEATS_baths" 1150 (.int 6 1149), dE P "is_pair" 1157 (.ref 612), dE P "wrong_pair" 1167 (.ref 619), dE P "is_bath" 1174 (.ref 626), dE P "bound_by" 1180 (.ref 631), dE P "bound_polys" 1194 (.ref 638), dE P "bound_gap" 1200 (.ref 643), dE P "BOARD_SIZES" 1206 (.ref 644), dE P "SORT_A" 1208 (.int 1 1207), dE P "SORT_B" 1210 (.int 2 1209), dE P "is_board" 1216 (.ref 649), dE P "check_board" 1223 (.ref 656), dE P "board_count" 1230 (.ref 663), dE P "many_of" 1239 (.ref 670), dE P "rows_beside" 1255 (.ref 677), dE P "counted" 1261 (.ref 682), dE P "push_poly" 1272 (.ref 689), dE P "fills_by" 1284 (.ref 696), dE P "check_both_strengths" 1293 (.ref 703), dE P "push" 1304 (.ref 710), dE P "push_row" 1312 (.ref 717), dE P "is_share" 1321 (.ref 724), dE P "MOST_LOOKS" 1325 (.int 4 1324), dE P "MOST_OF_LOOKS" 1327 (.int 5 1326), dE P "check_look_seats" 1334 (.ref 731), dE P "is_look_for" 1342 (.ref 738), dE P "wrong_look" 1352 (.ref 745), dE P "are_looks" 1360 (.ref 752), dE P "check_looks" 1369 (.ref 759), dE P "are_shares" 1375 (.ref 764), dE P "inequalities_of" 1381 (.ref 769), dE P "is_fitting" 1387 (.ref 774), dE P "PLACES" 1393 (.ref 775), dE P "STEPS" 1398 (.ref 778), dE P "link_between" 1404 (.ref 783), dE P "links_on" 1421 (.ref 790), dE P "low_link" 1429 (.ref 797), dE P "board_links" 1436 (.ref 804), dE P "keeps_apart" 1443 (.ref 811), dE P "powers_of" 1457 (.ref 818), dE P "table_of" 1463 (.ref 823), dE P "Squares" 1520 (.ref 857), dE P "certify_draws" 1530 (.ref 868), dE P "shows_two" 1547 (.ref 875), dE P "shows_likeliest" 1561 (.ref 882), dE P "shows_seat" 1573 (.ref 889), dE P "shows_unlinked" 1589 (.ref 896), dE P "is_lowering" 1595 (.ref 901), dE P "shows_draws" 1601 (.ref 906), dE P "shows_baths" 1614 (.ref 913), dE P "shows_apart" 1620 (.ref 918), dE P "shows_helped" 1631 (.ref 925), dE P "are_weights" 1637 (.ref 930), dE P "sum_for" 1652 (.ref 937), dE P "shows_looks" 1658 (.ref 942), dE P "mean_by" 1671 (.ref 949), dE P "are_bounding" 1686 (.ref 956), dE P "shows_fills" 1700 (.ref 963), dE P "MOST_SEATS_claims" 1704 (.int 5 1703), dE P "is_of_carriers" 1711 (.ref 970), dE P "is_of_one" 1719 (.ref 977), dE P "is_of_others" 1727 (.ref 984), dE P "is_of_looks" 1734 (.ref 991), dE P "is_claim" 1742 (.ref 998), dE P "shows_of_carriers" 1753 (.ref 1005), dE P "shows_of_others" 1762 (.ref 1012), dE P "accepts" 1771 (.ref 1019), dE P "_law_vat" 1783 (.ref 1026)]) 159, dN⟩),
  (40, ⟨.none, none, .fields (dA [.int 3 0, .int 0 0, .ref 48, .int 5 0, .int 0 0, .ref 61, .int 9 0, .int 0 0, .ref 80, .int 13 0, .int 0 0, .ref 99, .int 17 0, .int 0 0, .ref 118, .int 21 0, .int 0 0, .ref 137, .int 26 0, .int 0 0, .ref 156, .int 28 0, .int 0 0, .ref 163, .int 30 0, .int 0 0, .ref 168, .int 32 0, .int 0 0, .ref 175, .int 37 0, .int 0 0, .ref 180, .int 40 0, .int 0 0, .ref 187, .int 42 0, .int 0 0, .ref 194, .int 50 0, .int 0 0, .ref 203, .int 52 0, .int 0 0, .ref 210, .int 54 0, .int 0 0, .ref 217, .int 56 0, .int 0 0, .ref 224, .int 58 0, .int 0 0, .ref 231, .int 60 0, .int 0 0, .ref 238, .int 62 0, .int 0 0, .ref 245, .int 67 0, .int 0 0, .ref 252, .int 72 0, .int 0 0, .ref 259, .int 74 0, .int 0 0, .ref 266, .int 76 0, .int 0 0, .ref 273, .int 81 0, .int 0 0, .ref 278, .int 84 0, .int 0 0, .ref 285, .int 89 0, .int 0 0, .ref 290, .int 93 0, .int 0 0, .ref 295, .int 95 0, .int 0 0, .ref 302, .int 97 0, .int 0 0, .ref 309, .int 103 0, .int 0 0, .ref 316, .int 105 0, .int 0 0, .ref 321, .int 107 0, .int 0 0, .ref 328, .int 109 0, .int 0 0, .ref 333, .int 112 0, .int 0 0, .ref 340, .int 117 0, .int 0 0, .ref 347, .int 119 0, .int 0 0, .ref 352, .int 127 0, .int 0 0, .ref 359, .int 131 0, .int 0 0, .ref 366, .int 134 0, .int 0 0, .ref 373, .int 139 0, .int 0 0, .ref 380, .int 145 0, .int 0 0, .ref 385, .int 148 0, .int 0 0, .ref 390, .int 151 0, .int 0 0, .ref 397, .int 156 0, .int 0 0, .ref 404, .int 170 0, .int 0 0, .ref 409, .int 175 0, .int 0 0, .ref 416, .int 186 0, .int 0 0, .ref 424, .int 188 0, .int 0 0, .ref 429, .int 192 0, .int 0 0, .ref 436, .int 195 0, .int 0 0, .ref 443, .int 198 0, .int 0 0, .ref 450, .int 200 0, .int 0 0, .ref 457, .int 204 0, .int 0 0, .ref 462, .int 206 0, .int 0 0, .ref 469, .int 212 0, .int 0 0, .ref 476, .int 214 0, .int 0 0, .ref 481, .int 218 0, .int 0 0, .ref 488, .int 224 0, .int 0 0, .ref 495, .int 226 0, .int 0 0, .ref 500, .int 230 0, .int 0 0, .ref 507, .int 235 0, .int 0 0, .ref 514, .int 240 0, .int 0 0, .ref 521, .int 242 0, .int 0 0, .ref 526, .int 244 0, .int 0 0, .ref 533, .int 248 0, .int 0 0, .ref 538, .int 251 0, .int 0 0, .ref 543, .int 257 0, .int 0 0, .ref 550, .int 264 0, .int 0 0, .ref 555, .int 266 0, .int 0 0, .ref 562, .int 271 0, .int 0 0, .ref 569, .int 277 0, .int 0 0, .ref 576, .int 283 0, .int 0 0, .ref 583, .int 296 0, .int 0 0, .ref 590, .int 300 0, .int 0 0, .ref 597, .int 303 0, .int 0 0, .ref 604, .int 312 0, .int 0 0, .ref 611, .int 314 0, .int 0 0, .ref 618, .int 323 0, .int 0 0, .ref 625, .int 325 0, .int 0 0, .ref 630, .int 327 0, .int 0 0, .ref 637, .int 334 0, .int 0 0, .ref 642, .int 344 0, .int 0 0, .ref 648, .int 348 0, .int 0 0, .ref 655, .int 351 0, .int 0 0, .ref 662, .int 353 0, .int 0 0, .ref 669, .int 360 0, .int 0 0, .ref 676, .int 369 0, .int 0 0, .ref 681, .int 371 0, .int 0 0, .ref 688, .int 375 0, .int 0 0, .ref 695, .int 379 0, .int 0 0, .ref 702, .int 383 0, .int 0 0, .ref 709, .int 387 0, .int 0 0, .ref 716, .int 392 0, .int 0 0, .ref 723, .int 397 0, .int 0 0, .ref 730, .int 400 0, .int 0 0, .ref 737, .int 406 0, .int 0 0, .ref 744, .int 413 0, .int 0 0, .ref 751, .int 415 0, .int 0 0, .ref 758, .int 420 0, .int 0 0, .ref 763, .int 424 0, .int 0 0, .ref 768, .int 432 0, .int 0 0, .ref 773, .int 443 0, .int 0 0, .ref 782, .int 449 0, .int 0 0, .ref 789, .int 461 0, .int 0 0, .ref 796, .int 466 0, .int 0 0, .ref 803, .int 469 0, .int 0 0, .ref 810, .int 473 0, .int 0 0, .ref 817, .int 481 0, .int 0 0, .ref 822, .int 485 0, .int 0 0, .ref 829, .int 524 0, .int 0 0, .ref 867, .int 530 0, .int 0 0, .ref 874, .int 541 0, .int 0 0, .ref 881, .int 550 0, .int 0 0, .ref 888, .int 556 0, .int 0 0, .ref 895, .int 568 0, .int 0 0, .ref 900, .int 576 0, .int 0 0, .ref 905, .int 585 0, .int 0 0, .ref 912, .int 590 0, .int 0 0, .ref 917, .int 597 0, .int 0 0, .ref 924, .int 602 0, .int 0 0, .ref 929, .int 611 0, .int 0 0, .ref 936, .int 617 0, .int 0 0, .ref 941, .int 624 0, .int 0 0, .ref 948, .int 630 0, .int 0 0, .ref 955, .int 637 0, .int 0 0, .ref 962, .int 647 0, .int 0 0, .ref 969, .int 649 0, .int 0 0, .ref 976, .int 658 0, .int 0 0, .ref 983, .int 665 0, .int 0 0, .ref 990, .int 671 0, .int 0 0, .ref 997, .int 687 0, .int 0 0, .ref 1004, .int 698 0, .int 0 0, .ref 1011, .int 707 0, .int 0 0, .ref 1018, .int 713 0, .int 0 0, .ref 1025]), dN⟩)]
def tr7 (P : Params) : PySem.W.BT := setAll (ch7 P) (insAll (ob7 P) (tr6 P) 862)
def st7 (w : World) (os : OsState) : PySem.W.SharedT := ⟨tr7 w.params, 1027, {}, Array.mk [], {}, 1784, os⟩
def ob8_0 (P : Params) : List Obj := [
  ⟨.type "tuple", none, .seq (dA []) 0, dN⟩,
  ⟨.none, none, .fields (dA []), dN⟩,
  ⟨.type "tuple", none, .seq (dA [.str "_law_vat_here" 1787, .str "_law_size" 1788, .str "_law_figure" 1789, .str "_law_start" 1790]) 0, dN⟩,
  ⟨.type "tuple", none, .seq (dA []) 0, dN⟩,
  ⟨.none, none, .func (dF "_law_sip" "_law_sip" (topS 171) 0 [] (.none) (.none) (.none) (.none) (none) (.none) (.none) 0), dN⟩,
  ⟨.type "code", none, .fields (dA [.str "_law_sip" 1784, .str "_law_sip" 1785, .str "/claim/cut.py" 1786, .int 719 0, .int 2 0, .int 0 0, .int 0 0, .int 3 0, .ref 1027, .bool true, .int 374 0, .ref 1028, .none, .ref 1029, .ref 1030, .ref 1031, .int 1791 0, .int 719 0, .str "/claim/cut.py" 1792]), dN⟩,
  ⟨.type "function", none, .func (dF "_law_sip" "_law_sip" (topS 171) 3 [] (.none) (.none) (.none) (.str "law_guestseats_k37_whole_lowerings" 1772) (none) (.ref 1032) (.none) 0), dN⟩,
  ⟨.type "tuple", none, .seq (dA []) 0, dN⟩,
  ⟨.none, none, .fields (dA []), dN⟩,
  ⟨.type "tuple", none, .seq (dA [.str "_law_vat_here" 1797, .str "_law_some_here" 1798]) 0, dN⟩,
  ⟨.type "tuple", none, .seq (dA []) 0, dN⟩,
  ⟨.none, none, .func (dF "_law_of" "_law_of" (topS 172) 0 [] (.none) (.none) (.none) (.none) (none) (.none) (.none) 0), dN⟩,
  ⟨.type "code", none, .fields (dA [.str "_law_of" 1794, .str "_law_of" 1795, .str "/claim/cut.py" 1796, .int 727 0, .int 2 0, .int 0 0, .int 0 0, .int 3 0, .ref 1034, .bool true, .int 374 0, .ref 1035, .none, .ref 1036, .ref 1037, .ref 1038, .int 1799 0, .int 727 0, .str "/claim/cut.py" 1800]), dN⟩,
  ⟨.type "function", none, .func (dF "_law_of" "_law_of" (topS 172) 3 [] (.none) (.none) (.none) (.str "law_guestseats_k37_whole_lowerings" 1772) (none) (.ref 1039) (.none) 0), dN⟩,
  ⟨.type "tuple", none, .seq (dA []) 0, dN⟩,
  ⟨.none, none, .fields (dA []), dN⟩,
  ⟨.type "tuple", none, .seq (dA [.str "_law_one" 1805, .str "_law_two" 1806]) 0, dN⟩,
  ⟨.type "tuple", none, .seq (dA []) 0, dN⟩,
  ⟨.none, none, .func (dF "_law_common" "_law_common" (topS 173) 0 [] (.none) (.none) (.none) (.none) (none) (.none) (.none) 0), dN⟩,
  ⟨.type "code", none, .fields (dA [.str "_law_common" 1802, .str "_law_common" 1803, .str "/claim/cut.py" 1804, .int 729 0, .int 2 0, .int 0 0, .int 0 0, .int 3 0, .ref 1041, .bool true, .int 374 0, .ref 1042, .none, .ref 1043, .ref 1044, .ref 1045, .int 1807 0, .int 729 0, .str "/claim/cut.py" 1808]), dN⟩,
  ⟨.type "function", none, .func (dF "_law_common" "_law_common" (topS 173) 3 [] (.none) (.none) (.none) (.str "law_guestseats_k37_whole_lowerings" 1772) (none) (.ref 1046) (.none) 0), dN⟩,
  ⟨.type "tuple", none, .seq (dA []) 0, dN⟩,
  ⟨.none, none, .fields (dA []), dN⟩,
  ⟨.type "tuple", none, .seq (dA [.str "_law_top" 1813, .str "_law_under_here" 1814, .str "_law_deep" 1815]) 0, dN⟩,
  ⟨.type "tuple", none, .seq (dA []) 0, dN⟩,
  ⟨.none, none, .func (dF "_law_low" "_law_low" (topS 174) 0 [] (.none) (.none) (.none) (.none) (none) (.none) (.none) 0), dN⟩,
  ⟨.type "code", none, .fields (dA [.str "_law_low" 1810, .str "_law_low" 1811, .str "/claim/cut.py" 1812, .int 734 0, .int 2 0, .int 0 0, .int 0 0, .int 3 0, .ref 1048, .bool true, .int 374 0, .ref 1049, .none, .ref 1050, .ref 1051, .ref 1052, .int 1816 0, .int 734 0, .str "/claim/cut.py" 1817]), dN⟩,
  ⟨.type "function", none, .func (dF "_law_low" "_law_low" (topS 174) 3 [] (.none) (.none) (.none) (.str "law_guestseats_k37_whole_lowerings" 1772) (none) (.ref 1053) (.none) 0), dN⟩,
  ⟨.type "tuple", none, .seq (dA []) 0, dN⟩,
  ⟨.none, none, .fields (dA []), dN⟩,
  ⟨.type "tuple", none, .seq (dA [.str "_law_one" 1822, .str "_law_two" 1823]) 0, dN⟩,
  ⟨.type "tuple", none, .seq (dA []) 0, dN⟩,
  ⟨.none, none, .func (dF "_law_take" "_law_take" (topS 175) 0 [] (.none) (.none) (.none) (.none) (none) (.none) (.none) 0), dN⟩,
  ⟨.type "code", none, .fields (dA [.str "_law_take" 1819, .str "_law_take" 1820, .str "/claim/cut.py" 1821, .int 737 0, .int 2 0, .int 0 0, .int 0 0, .int 3 0, .ref 1055, .bool true, .int 374 0, .ref 1056, .none, .ref 1057, .ref 1058, .ref 1059, .int 1824 0, .int 737 0, .str "/claim/cut.py" 1825]), dN⟩,
  ⟨.type "function", none, .func (dF "_law_take" "_law_take" (topS 175) 3 [] (.none) (.none) (.none) (.str "law_guestseats_k37_whole_lowerings" 1772) (none) (.ref 1060) (.none) 0), dN⟩,
  ⟨.type "tuple", none, .seq (dA []) 0, dN⟩,
  ⟨.none, none, .fields (dA []), dN⟩,
  ⟨.type "tuple", none, .seq (dA [.str "_law_one" 1830, .str "_law_two" 1831]) 0, dN⟩,
  ⟨.type "tuple", none, .seq (dA []) 0, dN⟩,
  ⟨.none, none, .func (dF "_law_mul" "_law_mul" (topS 176) 0 [] (.none) (.none) (.none) (.none) (none) (.none) (.none) 0), dN⟩]
def ob8_1 (P : Params) : List Obj := [
  ⟨.type "code", none, .fields (dA [.str "_law_mul" 1827, .str "_law_mul" 1828, .str "/claim/cut.py" 1829, .int 739 0, .int 2 0, .int 0 0, .int 0 0, .int 3 0, .ref 1062, .bool true, .int 374 0, .ref 1063, .none, .ref 1064, .ref 1065, .ref 1066, .int 1832 0, .int 739 0, .str "/claim/cut.py" 1833]), dN⟩,
  ⟨.type "function", none, .func (dF "_law_mul" "_law_mul" (topS 176) 3 [] (.none) (.none) (.none) (.str "law_guestseats_k37_whole_lowerings" 1772) (none) (.ref 1067) (.none) 0), dN⟩,
  ⟨.type "tuple", none, .seq (dA []) 0, dN⟩,
  ⟨.none, none, .fields (dA []), dN⟩,
  ⟨.type "tuple", none, .seq (dA [.str "_law_one" 1838, .str "_law_two" 1839]) 0, dN⟩,
  ⟨.type "tuple", none, .seq (dA []) 0, dN⟩,
  ⟨.none, none, .func (dF "_law_over" "_law_over" (topS 177) 0 [] (.none) (.none) (.none) (.none) (none) (.none) (.none) 0), dN⟩,
  ⟨.type "code", none, .fields (dA [.str "_law_over" 1835, .str "_law_over" 1836, .str "/claim/cut.py" 1837, .int 741 0, .int 2 0, .int 0 0, .int 0 0, .int 3 0, .ref 1069, .bool true, .int 374 0, .ref 1070, .none, .ref 1071, .ref 1072, .ref 1073, .int 1840 0, .int 741 0, .str "/claim/cut.py" 1841]), dN⟩,
  ⟨.type "function", none, .func (dF "_law_over" "_law_over" (topS 177) 3 [] (.none) (.none) (.none) (.str "law_guestseats_k37_whole_lowerings" 1772) (none) (.ref 1074) (.none) 0), dN⟩,
  ⟨.type "tuple", none, .seq (dA []) 0, dN⟩,
  ⟨.none, none, .fields (dA []), dN⟩,
  ⟨.type "tuple", none, .seq (dA [.str "_law_one" 1846, .str "_law_two" 1847]) 0, dN⟩,
  ⟨.type "tuple", none, .seq (dA []) 0, dN⟩,
  ⟨.none, none, .func (dF "_law_under" "_law_under" (topS 178) 0 [] (.none) (.none) (.none) (.none) (none) (.none) (.none) 0), dN⟩,
  ⟨.type "code", none, .fields (dA [.str "_law_under" 1843, .str "_law_under" 1844, .str "/claim/cut.py" 1845, .int 743 0, .int 2 0, .int 0 0, .int 0 0, .int 3 0, .ref 1076, .bool true, .int 374 0, .ref 1077, .none, .ref 1078, .ref 1079, .ref 1080, .int 1848 0, .int 743 0, .str "/claim/cut.py" 1849]), dN⟩,
  ⟨.type "function", none, .func (dF "_law_under" "_law_under" (topS 178) 3 [] (.none) (.none) (.none) (.str "law_guestseats_k37_whole_lowerings" 1772) (none) (.ref 1081) (.none) 0), dN⟩,
  ⟨.type "tuple", none, .seq (dA []) 0, dN⟩,
  ⟨.none, none, .fields (dA []), dN⟩,
  ⟨.type "tuple", none, .seq (dA [.str "_law_base" 1854, .str "_law_many" 1855, .str "_law_found" 1856, .str "_law_lap" 1857]) 0, dN⟩,
  ⟨.type "tuple", none, .seq (dA []) 0, dN⟩,
  ⟨.none, none, .func (dF "_law_power" "_law_power" (topS 179) 0 [] (.none) (.none) (.none) (.none) (none) (.none) (.none) 0), dN⟩,
  ⟨.type "code", none, .fields (dA [.str "_law_power" 1851, .str "_law_power" 1852, .str "/claim/cut.py" 1853, .int 745 0, .int 2 0, .int 0 0, .int 0 0, .int 3 0, .ref 1083, .bool true, .int 374 0, .ref 1084, .none, .ref 1085, .ref 1086, .ref 1087, .int 1858 0, .int 745 0, .str "/claim/cut.py" 1859]), dN⟩,
  ⟨.type "function", none, .func (dF "_law_power" "_law_power" (topS 179) 3 [] (.none) (.none) (.none) (.str "law_guestseats_k37_whole_lowerings" 1772) (none) (.ref 1088) (.none) 0), dN⟩,
  ⟨.type "tuple", none, .seq (dA []) 0, dN⟩,
  ⟨.none, none, .fields (dA []), dN⟩,
  ⟨.type "tuple", none, .seq (dA [.str "_law_vat_here" 1864, .str "_law_wide" 1865]) 0, dN⟩,
  ⟨.type "tuple", none, .seq (dA []) 0, dN⟩,
  ⟨.none, none, .func (dF "_law_some" "_law_some" (topS 180) 0 [] (.none) (.none) (.none) (.none) (none) (.none) (.none) 0), dN⟩,
  ⟨.type "code", none, .fields (dA [.str "_law_some" 1861, .str "_law_some" 1862, .str "/claim/cut.py" 1863, .int 750 0, .int 2 0, .int 0 0, .int 0 0, .int 3 0, .ref 1090, .bool true, .int 374 0, .ref 1091, .none, .ref 1092, .ref 1093, .ref 1094, .int 1866 0, .int 750 0, .str "/claim/cut.py" 1867]), dN⟩,
  ⟨.type "function", none, .func (dF "_law_some" "_law_some" (topS 180) 3 [] (.none) (.none) (.none) (.str "law_guestseats_k37_whole_lowerings" 1772) (none) (.ref 1095) (.none) 0), dN⟩,
  ⟨.type "tuple", none, .seq (dA []) 0, dN⟩,
  ⟨.none, none, .fields (dA []), dN⟩,
  ⟨.type "tuple", none, .seq (dA [.str "_law_vat_here" 1872, .str "_law_way" 1873]) 0, dN⟩,
  ⟨.type "tuple", none, .seq (dA []) 0, dN⟩,
  ⟨.none, none, .func (dF "_law_dose" "_law_dose" (topS 181) 0 [] (.none) (.none) (.none) (.none) (none) (.none) (.none) 0), dN⟩,
  ⟨.type "code", none, .fields (dA [.str "_law_dose" 1869, .str "_law_dose" 1870, .str "/claim/cut.py" 1871, .int 752 0, .int 1 0, .int 0 0, .int 0 0, .int 3 0, .ref 1097, .bool true, .int 374 0, .ref 1098, .none, .ref 1099, .ref 1100, .ref 1101, .int 1874 0, .int 752 0, .str "/claim/cut.py" 1875]), dN⟩,
  ⟨.type "function", none, .func (dF "_law_dose" "_law_dose" (topS 181) 3 [] (.none) (.none) (.none) (.str "law_guestseats_k37_whole_lowerings" 1772) (none) (.ref 1102) (.none) 0), dN⟩,
  ⟨.type "tuple", none, .seq (dA []) 0, dN⟩,
  ⟨.none, none, .fields (dA []), dN⟩,
  ⟨.type "tuple", none, .seq (dA [.str "_law_standing" 1880, .str "_law_seat" 1881]) 0, dN⟩]
def ob8_2 (P : Params) : List Obj := [
  ⟨.type "tuple", none, .seq (dA []) 0, dN⟩,
  ⟨.none, none, .func (dF "_law_has" "_law_has" (topS 182) 0 [] (.none) (.none) (.none) (.none) (none) (.none) (.none) 0), dN⟩,
  ⟨.type "code", none, .fields (dA [.str "_law_has" 1877, .str "_law_has" 1878, .str "/claim/cut.py" 1879, .int 759 0, .int 2 0, .int 0 0, .int 0 0, .int 3 0, .ref 1104, .bool true, .int 374 0, .ref 1105, .none, .ref 1106, .ref 1107, .ref 1108, .int 1882 0, .int 759 0, .str "/claim/cut.py" 1883]), dN⟩,
  ⟨.type "function", none, .func (dF "_law_has" "_law_has" (topS 182) 3 [] (.none) (.none) (.none) (.str "law_guestseats_k37_whole_lowerings" 1772) (none) (.ref 1109) (.none) 0), dN⟩,
  ⟨.type "tuple", none, .seq (dA []) 0, dN⟩,
  ⟨.none, none, .fields (dA []), dN⟩,
  ⟨.type "tuple", none, .seq (dA [.str "_law_weights" 1888]) 0, dN⟩,
  ⟨.type "tuple", none, .seq (dA []) 0, dN⟩,
  ⟨.none, none, .func (dF "_law_count_seats" "_law_count_seats" (topS 183) 0 [] (.none) (.none) (.none) (.none) (none) (.none) (.none) 0), dN⟩,
  ⟨.type "code", none, .fields (dA [.str "_law_count_seats" 1885, .str "_law_count_seats" 1886, .str "/claim/cut.py" 1887, .int 761 0, .int 1 0, .int 0 0, .int 0 0, .int 3 0, .ref 1111, .bool true, .int 374 0, .ref 1112, .none, .ref 1113, .ref 1114, .ref 1115, .int 1889 0, .int 761 0, .str "/claim/cut.py" 1890]), dN⟩,
  ⟨.type "function", none, .func (dF "_law_count_seats" "_law_count_seats" (topS 183) 3 [] (.none) (.none) (.none) (.str "law_guestseats_k37_whole_lowerings" 1772) (none) (.ref 1116) (.none) 0), dN⟩,
  ⟨.type "tuple", none, .seq (dA []) 0, dN⟩,
  ⟨.none, none, .fields (dA []), dN⟩,
  ⟨.type "tuple", none, .seq (dA [.str "_law_factors" 1895, .str "_law_standing" 1896, .str "_law_found" 1897, .str "_law_seat" 1898]) 0, dN⟩,
  ⟨.type "tuple", none, .seq (dA []) 0, dN⟩,
  ⟨.none, none, .func (dF "_law_product" "_law_product" (topS 184) 0 [] (.none) (.none) (.none) (.none) (none) (.none) (.none) 0), dN⟩,
  ⟨.type "code", none, .fields (dA [.str "_law_product" 1892, .str "_law_product" 1893, .str "/claim/cut.py" 1894, .int 763 0, .int 2 0, .int 0 0, .int 0 0, .int 3 0, .ref 1118, .bool true, .int 374 0, .ref 1119, .none, .ref 1120, .ref 1121, .ref 1122, .int 1899 0, .int 763 0, .str "/claim/cut.py" 1900]), dN⟩,
  ⟨.type "function", none, .func (dF "_law_product" "_law_product" (topS 184) 3 [] (.none) (.none) (.none) (.str "law_guestseats_k37_whole_lowerings" 1772) (none) (.ref 1123) (.none) 0), dN⟩,
  ⟨.type "tuple", none, .seq (dA []) 0, dN⟩,
  ⟨.none, none, .fields (dA []), dN⟩,
  ⟨.none, none, .func (dF "_law_free" "_law_free" (topS 185) 0 [] (.none) (.none) (.none) (.none) (none) (.none) (.none) 0), dN⟩,
  ⟨.type "code", none, .fields (dA [.str "_law_free" 1902, .str "_law_free" 1903, .str "/claim/cut.py" 1904, .int 769 0, .int 1 0, .int 0 0, .int 0 0, .int 3 0, .ref 1125, .bool true, .int 374 0, .ref 1126, .none, .none, .none, .ref 1127, .int 1905 0, .int 769 0, .str "/claim/cut.py" 1906]), dN⟩,
  ⟨.type "function", none, .func (dF "_law_free" "_law_free" (topS 185) 3 [] (.none) (.none) (.none) (.str "law_guestseats_k37_whole_lowerings" 1772) (none) (.ref 1128) (.none) 0), dN⟩,
  ⟨.type "tuple", none, .seq (dA []) 0, dN⟩,
  ⟨.none, none, .fields (dA []), dN⟩,
  ⟨.type "tuple", none, .seq (dA [.str "_law_weights" 1911, .str "_law_one" 1912, .str "_law_two" 1913, .str "_law_by" 1914, .str "_law_found" 1915, .str "_law_standing" 1916, .str "_law_both_here" 1917]) 0, dN⟩,
  ⟨.type "tuple", none, .seq (dA []) 0, dN⟩,
  ⟨.none, none, .func (dF "_law_knot" "_law_knot" (topS 186) 0 [] (.none) (.none) (.none) (.none) (none) (.none) (.none) 0), dN⟩,
  ⟨.type "code", none, .fields (dA [.str "_law_knot" 1908, .str "_law_knot" 1909, .str "/claim/cut.py" 1910, .int 771 0, .int 4 0, .int 0 0, .int 0 0, .int 3 0, .ref 1130, .bool true, .int 374 0, .ref 1131, .none, .ref 1132, .ref 1133, .ref 1134, .int 1918 0, .int 771 0, .str "/claim/cut.py" 1919]), dN⟩,
  ⟨.type "function", none, .func (dF "_law_knot" "_law_knot" (topS 186) 3 [] (.none) (.none) (.none) (.str "law_guestseats_k37_whole_lowerings" 1772) (none) (.ref 1135) (.none) 0), dN⟩,
  ⟨.type "tuple", none, .seq (dA []) 0, dN⟩,
  ⟨.none, none, .fields (dA []), dN⟩,
  ⟨.type "tuple", none, .seq (dA [.str "_law_vat_here" 1924, .str "_law_weights" 1925, .str "_law_some_here" 1926, .str "_law_seats" 1927, .str "_law_one" 1928, .str "_law_two" 1929]) 0, dN⟩,
  ⟨.type "tuple", none, .seq (dA []) 0, dN⟩,
  ⟨.none, none, .func (dF "_law_knots" "_law_knots" (topS 187) 0 [] (.none) (.none) (.none) (.none) (none) (.none) (.none) 0), dN⟩,
  ⟨.type "code", none, .fields (dA [.str "_law_knots" 1921, .str "_law_knots" 1922, .str "/claim/cut.py" 1923, .int 777 0, .int 3 0, .int 0 0, .int 0 0, .int 3 0, .ref 1137, .bool true, .int 374 0, .ref 1138, .none, .ref 1139, .ref 1140, .ref 1141, .int 1930 0, .int 777 0, .str "/claim/cut.py" 1931]), dN⟩,
  ⟨.type "function", none, .func (dF "_law_knots" "_law_knots" (topS 187) 3 [] (.none) (.none) (.none) (.str "law_guestseats_k37_whole_lowerings" 1772) (none) (.ref 1142) (.none) 0), dN⟩,
  ⟨.type "tuple", none, .seq (dA []) 0, dN⟩,
  ⟨.none, none, .fields (dA []), dN⟩,
  ⟨.none, none, .func (dF "_law_bench" "_law_bench" (topS 188) 0 [] (.none) (.none) (.none) (.none) (none) (.none) (.none) 0), dN⟩]
def ob8_3 (P : Params) : List Obj := [
  ⟨.type "code", none, .fields (dA [.str "_law_bench" 1933, .str "_law_bench" 1934, .str "/claim/cut.py" 1935, .int 784 0, .int 2 0, .int 0 0, .int 0 0, .int 3 0, .ref 1144, .bool true, .int 374 0, .ref 1145, .none, .none, .none, .ref 1146, .int 1936 0, .int 784 0, .str "/claim/cut.py" 1937]), dN⟩,
  ⟨.type "function", none, .func (dF "_law_bench" "_law_bench" (topS 188) 3 [] (.none) (.none) (.none) (.str "law_guestseats_k37_whole_lowerings" 1772) (none) (.ref 1147) (.none) 0), dN⟩,
  ⟨.type "tuple", none, .seq (dA []) 0, dN⟩,
  ⟨.none, none, .fields (dA []), dN⟩,
  ⟨.none, none, .func (dF "_law_scaled_up" "_law_scaled_up" (topS 189) 0 [] (.none) (.none) (.none) (.none) (none) (.none) (.none) 0), dN⟩,
  ⟨.type "code", none, .fields (dA [.str "_law_scaled_up" 1939, .str "_law_scaled_up" 1940, .str "/claim/cut.py" 1941, .int 798 0, .int 1 0, .int 0 0, .int 0 0, .int 3 0, .ref 1149, .bool true, .int 374 0, .ref 1150, .none, .none, .none, .ref 1151, .int 1942 0, .int 798 0, .str "/claim/cut.py" 1943]), dN⟩,
  ⟨.type "function", none, .func (dF "_law_scaled_up" "_law_scaled_up" (topS 189) 3 [] (.none) (.none) (.none) (.str "law_guestseats_k37_whole_lowerings" 1772) (none) (.ref 1152) (.none) 0), dN⟩,
  ⟨.type "tuple", none, .seq (dA []) 0, dN⟩,
  ⟨.none, none, .fields (dA []), dN⟩,
  ⟨.type "tuple", none, .seq (dA [.str "_law_weights" 1948, .str "_law_own" 1949, .str "_law_found" 1950, .str "_law_whole" 1951, .str "_law_standing" 1952, .str "_law_part" 1953, .str "_law_seat" 1954]) 0, dN⟩,
  ⟨.type "tuple", none, .seq (dA []) 0, dN⟩,
  ⟨.none, none, .func (dF "_law_parts" "_law_parts" (topS 190) 0 [] (.none) (.none) (.none) (.none) (none) (.none) (.none) 0), dN⟩,
  ⟨.type "code", none, .fields (dA [.str "_law_parts" 1945, .str "_law_parts" 1946, .str "/claim/cut.py" 1947, .int 803 0, .int 2 0, .int 0 0, .int 0 0, .int 3 0, .ref 1154, .bool true, .int 374 0, .ref 1155, .none, .ref 1156, .ref 1157, .ref 1158, .int 1955 0, .int 803 0, .str "/claim/cut.py" 1956]), dN⟩,
  ⟨.type "function", none, .func (dF "_law_parts" "_law_parts" (topS 190) 3 [] (.none) (.none) (.none) (.str "law_guestseats_k37_whole_lowerings" 1772) (none) (.ref 1159) (.none) 0), dN⟩,
  ⟨.type "tuple", none, .seq (dA []) 0, dN⟩,
  ⟨.none, none, .fields (dA []), dN⟩,
  ⟨.none, none, .func (dF "_law_share" "_law_share" (topS 191) 0 [] (.none) (.none) (.none) (.none) (none) (.none) (.none) 0), dN⟩,
  ⟨.type "code", none, .fields (dA [.str "_law_share" 1958, .str "_law_share" 1959, .str "/claim/cut.py" 1960, .int 811 0, .int 2 0, .int 0 0, .int 0 0, .int 3 0, .ref 1161, .bool true, .int 374 0, .ref 1162, .none, .none, .none, .ref 1163, .int 1961 0, .int 811 0, .str "/claim/cut.py" 1962]), dN⟩,
  ⟨.type "function", none, .func (dF "_law_share" "_law_share" (topS 191) 3 [] (.none) (.none) (.none) (.str "law_guestseats_k37_whole_lowerings" 1772) (none) (.ref 1164) (.none) 0), dN⟩,
  ⟨.type "tuple", none, .seq (dA []) 0, dN⟩,
  ⟨.none, none, .fields (dA []), dN⟩,
  ⟨.none, none, .func (dF "_law_seated" "_law_seated" (topS 192) 0 [] (.none) (.none) (.none) (.none) (none) (.none) (.none) 0), dN⟩,
  ⟨.type "code", none, .fields (dA [.str "_law_seated" 1964, .str "_law_seated" 1965, .str "/claim/cut.py" 1966, .int 813 0, .int 2 0, .int 0 0, .int 0 0, .int 3 0, .ref 1166, .bool true, .int 374 0, .ref 1167, .none, .none, .none, .ref 1168, .int 1967 0, .int 813 0, .str "/claim/cut.py" 1968]), dN⟩,
  ⟨.type "function", none, .func (dF "_law_seated" "_law_seated" (topS 192) 3 [] (.none) (.none) (.none) (.str "law_guestseats_k37_whole_lowerings" 1772) (none) (.ref 1169) (.none) 0), dN⟩,
  ⟨.type "tuple", none, .seq (dA []) 0, dN⟩,
  ⟨.none, none, .fields (dA []), dN⟩,
  ⟨.none, none, .func (dF "_law_both" "_law_both" (topS 193) 0 [] (.none) (.none) (.none) (.none) (none) (.none) (.none) 0), dN⟩,
  ⟨.type "code", none, .fields (dA [.str "_law_both" 1970, .str "_law_both" 1971, .str "/claim/cut.py" 1972, .int 815 0, .int 3 0, .int 0 0, .int 0 0, .int 3 0, .ref 1171, .bool true, .int 374 0, .ref 1172, .none, .none, .none, .ref 1173, .int 1973 0, .int 815 0, .str "/claim/cut.py" 1974]), dN⟩,
  ⟨.type "function", none, .func (dF "_law_both" "_law_both" (topS 193) 3 [] (.none) (.none) (.none) (.str "law_guestseats_k37_whole_lowerings" 1772) (none) (.ref 1174) (.none) 0), dN⟩,
  ⟨.type "tuple", none, .seq (dA []) 0, dN⟩,
  ⟨.none, none, .fields (dA []), dN⟩,
  ⟨.type "tuple", none, .seq (dA [.str "_law_script" 1979, .str "_law_most" 1980]) 0, dN⟩,
  ⟨.type "tuple", none, .seq (dA []) 0, dN⟩,
  ⟨.none, none, .func (dF "_law_laps" "_law_laps" (topS 194) 0 [] (.none) (.none) (.none) (.none) (none) (.none) (.none) 0), dN⟩,
  ⟨.type "code", none, .fields (dA [.str "_law_laps" 1976, .str "_law_laps" 1977, .str "/claim/cut.py" 1978, .int 818 0, .int 2 0, .int 0 0, .int 0 0, .int 3 0, .ref 1176, .bool true, .int 374 0, .ref 1177, .none, .ref 1178, .ref 1179, .ref 1180, .int 1981 0, .int 818 0, .str "/claim/cut.py" 1982]), dN⟩,
  ⟨.type "function", none, .func (dF "_law_laps" "_law_laps" (topS 194) 3 [] (.none) (.none) (.none) (.str "law_guestseats_k37_whole_lowerings" 1772) (none) (.ref 1181) (.none) 0), dN⟩,
  ⟨.type "tuple", none, .seq (dA []) 0, dN⟩,
  ⟨.none, none, .fields (dA []), dN⟩,
  ⟨.type "tuple", none, .seq (dA [.str "_law_vat_here" 1987, .str "_law_seats" 1988, .str "_law_one" 1989]) 0, dN⟩,
  ⟨.type "tuple", none, .seq (dA []) 0, dN⟩]
def ob8_4 (P : Params) : List Obj := [
  ⟨.none, none, .func (dF "_law_seat_pair" "_law_seat_pair" (topS 195) 0 [] (.none) (.none) (.none) (.none) (none) (.none) (.none) 0), dN⟩,
  ⟨.type "code", none, .fields (dA [.str "_law_seat_pair" 1984, .str "_law_seat_pair" 1985, .str "/claim/cut.py" 1986, .int 820 0, .int 2 0, .int 0 0, .int 0 0, .int 3 0, .ref 1183, .bool true, .int 374 0, .ref 1184, .none, .ref 1185, .ref 1186, .ref 1187, .int 1990 0, .int 820 0, .str "/claim/cut.py" 1991]), dN⟩,
  ⟨.type "function", none, .func (dF "_law_seat_pair" "_law_seat_pair" (topS 195) 3 [] (.none) (.none) (.none) (.str "law_guestseats_k37_whole_lowerings" 1772) (none) (.ref 1188) (.none) 0), dN⟩,
  ⟨.type "tuple", none, .seq (dA []) 0, dN⟩,
  ⟨.none, none, .fields (dA []), dN⟩,
  ⟨.type "tuple", none, .seq (dA [.str "_law_weights" 1996, .str "_law_one" 1997, .str "_law_two" 1998, .str "_law_standing" 1999, .str "_law_top" 2000]) 0, dN⟩,
  ⟨.type "tuple", none, .seq (dA []) 0, dN⟩,
  ⟨.none, none, .func (dF "_law_link" "_law_link" (topS 196) 0 [] (.none) (.none) (.none) (.none) (none) (.none) (.none) 0), dN⟩,
  ⟨.type "code", none, .fields (dA [.str "_law_link" 1993, .str "_law_link" 1994, .str "/claim/cut.py" 1995, .int 823 0, .int 4 0, .int 0 0, .int 0 0, .int 3 0, .ref 1190, .bool true, .int 374 0, .ref 1191, .none, .ref 1192, .ref 1193, .ref 1194, .int 2001 0, .int 823 0, .str "/claim/cut.py" 2002]), dN⟩,
  ⟨.type "function", none, .func (dF "_law_link" "_law_link" (topS 196) 3 [] (.none) (.none) (.none) (.str "law_guestseats_k37_whole_lowerings" 1772) (none) (.ref 1195) (.none) 0), dN⟩,
  ⟨.type "tuple", none, .seq (dA []) 0, dN⟩,
  ⟨.none, none, .fields (dA []), dN⟩,
  ⟨.none, none, .func (dF "_law_drawing" "_law_drawing" (topS 197) 0 [] (.none) (.none) (.none) (.none) (none) (.none) (.none) 0), dN⟩,
  ⟨.type "code", none, .fields (dA [.str "_law_drawing" 2004, .str "_law_drawing" 2005, .str "/claim/cut.py" 2006, .int 826 0, .int 2 0, .int 0 0, .int 0 0, .int 3 0, .ref 1197, .bool true, .int 374 0, .ref 1198, .none, .none, .none, .ref 1199, .int 2007 0, .int 826 0, .str "/claim/cut.py" 2008]), dN⟩,
  ⟨.type "function", none, .func (dF "_law_drawing" "_law_drawing" (topS 197) 3 [] (.none) (.none) (.none) (.str "law_guestseats_k37_whole_lowerings" 1772) (none) (.ref 1200) (.none) 0), dN⟩,
  ⟨.type "tuple", none, .seq (dA []) 0, dN⟩,
  ⟨.none, none, .fields (dA []), dN⟩,
  ⟨.none, none, .func (dF "_law_owns" "_law_owns" (topS 198) 0 [] (.none) (.none) (.none) (.none) (none) (.none) (.none) 0), dN⟩,
  ⟨.type "code", none, .fields (dA [.str "_law_owns" 2010, .str "_law_owns" 2011, .str "/claim/cut.py" 2012, .int 836 0, .int 2 0, .int 0 0, .int 0 0, .int 3 0, .ref 1202, .bool true, .int 374 0, .ref 1203, .none, .none, .none, .ref 1204, .int 2013 0, .int 836 0, .str "/claim/cut.py" 2014]), dN⟩,
  ⟨.type "function", none, .func (dF "_law_owns" "_law_owns" (topS 198) 3 [] (.none) (.none) (.none) (.str "law_guestseats_k37_whole_lowerings" 1772) (none) (.ref 1205) (.none) 0), dN⟩,
  ⟨.type "tuple", none, .seq (dA []) 0, dN⟩,
  ⟨.none, none, .fields (dA []), dN⟩,
  ⟨.type "tuple", none, .seq (dA [.str "_law_parts_here" 2019, .str "_law_one" 2020, .str "_law_two" 2021]) 0, dN⟩,
  ⟨.type "tuple", none, .seq (dA []) 0, dN⟩,
  ⟨.none, none, .func (dF "_law_pull" "_law_pull" (topS 199) 0 [] (.none) (.none) (.none) (.none) (none) (.none) (.none) 0), dN⟩,
  ⟨.type "code", none, .fields (dA [.str "_law_pull" 2016, .str "_law_pull" 2017, .str "/claim/cut.py" 2018, .int 838 0, .int 3 0, .int 0 0, .int 0 0, .int 3 0, .ref 1207, .bool true, .int 374 0, .ref 1208, .none, .ref 1209, .ref 1210, .ref 1211, .int 2022 0, .int 838 0, .str "/claim/cut.py" 2023]), dN⟩,
  ⟨.type "function", none, .func (dF "_law_pull" "_law_pull" (topS 199) 3 [] (.none) (.none) (.none) (.str "law_guestseats_k37_whole_lowerings" 1772) (none) (.ref 1212) (.none) 0), dN⟩,
  ⟨.type "tuple", none, .seq (dA []) 0, dN⟩,
  ⟨.none, none, .fields (dA []), dN⟩,
  ⟨.type "tuple", none, .seq (dA [.str "_law_weights" 2028, .str "_law_seats" 2029, .str "_law_one" 2030, .str "_law_two" 2031, .str "_law_standing" 2032]) 0, dN⟩,
  ⟨.type "tuple", none, .seq (dA []) 0, dN⟩,
  ⟨.none, none, .func (dF "_law_first" "_law_first" (topS 200) 0 [] (.none) (.none) (.none) (.none) (none) (.none) (.none) 0), dN⟩,
  ⟨.type "code", none, .fields (dA [.str "_law_first" 2025, .str "_law_first" 2026, .str "/claim/cut.py" 2027, .int 840 0, .int 1 0, .int 0 0, .int 0 0, .int 3 0, .ref 1214, .bool true, .int 374 0, .ref 1215, .none, .ref 1216, .ref 1217, .ref 1218, .int 2033 0, .int 840 0, .str "/claim/cut.py" 2034]), dN⟩,
  ⟨.type "function", none, .func (dF "_law_first" "_law_first" (topS 200) 3 [] (.none) (.none) (.none) (.str "law_guestseats_k37_whole_lowerings" 1772) (none) (.ref 1219) (.none) 0), dN⟩,
  ⟨.type "tuple", none, .seq (dA []) 0, dN⟩,
  ⟨.none, none, .fields (dA []), dN⟩,
  ⟨.type "tuple", none, .seq (dA [.str "_law_weights" 2039, .str "_law_first_here" 2040, .str "_law_one" 2041, .str "_law_two" 2042, .str "_law_standing" 2043, .str "_law_many" 2044, .str "_law_high" 2045, .str "_law_own" 2046, .str "_law_seat" 2047]) 0, dN⟩,
  ⟨.type "tuple", none, .seq (dA []) 0, dN⟩,
  ⟨.none, none, .func (dF "_law_due" "_law_due" (topS 201) 0 [] (.none) (.none) (.none) (.none) (none) (.none) (.none) 0), dN⟩,
  ⟨.type "code", none, .fields (dA [.str "_law_due" 2036, .str "_law_due" 2037, .str "/claim/cut.py" 2038, .int 849 0, .int 1 0, .int 0 0, .int 0 0, .int 3 0, .ref 1221, .bool true, .int 374 0, .ref 1222, .none, .ref 1223, .ref 1224, .ref 1225, .int 2048 0, .int 849 0, .str "/claim/cut.py" 2049]), dN⟩]
def ob8_5 (P : Params) : List Obj := [
  ⟨.type "function", none, .func (dF "_law_due" "_law_due" (topS 201) 3 [] (.none) (.none) (.none) (.str "law_guestseats_k37_whole_lowerings" 1772) (none) (.ref 1226) (.none) 0), dN⟩,
  ⟨.type "tuple", none, .seq (dA []) 0, dN⟩,
  ⟨.none, none, .fields (dA []), dN⟩,
  ⟨.type "tuple", none, .seq (dA [.str "_law_weights" 2054, .str "_law_told" 2055]) 0, dN⟩,
  ⟨.type "tuple", none, .seq (dA []) 0, dN⟩,
  ⟨.none, none, .func (dF "_law_lowers" "_law_lowers" (topS 202) 0 [] (.none) (.none) (.none) (.none) (none) (.none) (.none) 0), dN⟩,
  ⟨.type "code", none, .fields (dA [.str "_law_lowers" 2051, .str "_law_lowers" 2052, .str "/claim/cut.py" 2053, .int 864 0, .int 2 0, .int 0 0, .int 0 0, .int 3 0, .ref 1228, .bool true, .int 374 0, .ref 1229, .none, .ref 1230, .ref 1231, .ref 1232, .int 2056 0, .int 864 0, .str "/claim/cut.py" 2057]), dN⟩,
  ⟨.type "function", none, .func (dF "_law_lowers" "_law_lowers" (topS 202) 3 [] (.none) (.none) (.none) (.str "law_guestseats_k37_whole_lowerings" 1772) (none) (.ref 1233) (.none) 0), dN⟩,
  ⟨.type "tuple", none, .seq (dA []) 0, dN⟩,
  ⟨.none, none, .fields (dA []), dN⟩,
  ⟨.none, none, .func (dF "_law_right" "_law_right" (topS 203) 0 [] (.none) (.none) (.none) (.none) (none) (.none) (.none) 0), dN⟩,
  ⟨.type "code", none, .fields (dA [.str "_law_right" 2059, .str "_law_right" 2060, .str "/claim/cut.py" 2061, .int 866 0, .int 1 0, .int 0 0, .int 0 0, .int 3 0, .ref 1235, .bool true, .int 374 0, .ref 1236, .none, .none, .none, .ref 1237, .int 2062 0, .int 866 0, .str "/claim/cut.py" 2063]), dN⟩,
  ⟨.type "function", none, .func (dF "_law_right" "_law_right" (topS 203) 3 [] (.none) (.none) (.none) (.str "law_guestseats_k37_whole_lowerings" 1772) (none) (.ref 1238) (.none) 0), dN⟩,
  ⟨.type "tuple", none, .seq (dA []) 0, dN⟩,
  ⟨.none, none, .fields (dA []), dN⟩,
  ⟨.none, none, .func (dF "law" "law" (topS 204) 0 [] (.none) (.none) (.none) (.none) (none) (.none) (.none) 0), dN⟩,
  ⟨.type "code", none, .fields (dA [.str "law" 2065, .str "law" 2066, .str "/claim/cut.py" 2067, .int 888 0, .int 1 0, .int 0 0, .int 0 0, .int 3 0, .ref 1240, .bool true, .int 374 0, .ref 1241, .none, .none, .none, .ref 1242, .int 2068 0, .int 888 0, .str "/claim/cut.py" 2069]), dN⟩,
  ⟨.type "function", none, .func (dF "law" "law" (topS 204) 3 [] (.none) (.none) (.none) (.str "law_guestseats_k37_whole_lowerings" 1772) (none) (.ref 1243) (.none) 0), dN⟩]
def ob8 (P : Params) : List Obj := ob8_0 P ++ ob8_1 P ++ ob8_2 P ++ ob8_3 P ++ ob8_4 P ++ ob8_5 P
def ch8 (P : Params) : List (Nat × Obj) := [
  (3, ⟨.type "dict", none, .dict (dB [dE P "__name__" 165 (.str "law_guestseats_k37_whole_lowerings" 1772), dE P "__doc__" 166 (.none), dE P "__package__" 167 (.none), dE P "__loader__" 168 (.builtin "__main__.__loader__#opaque"), dE P "__spec__" 169 (.none), dE P "__annotations__" 170 (.ref 6), dE P "__builtins__" 171 (.ref 4), dE P "__file__" 173 (.str "/claim/cut.py" 172), dE P "__cached__" 174 (.none), dE P "gcd" 370 (.builtin "math.gcd"), dE P "lcm" 373 (.builtin "math.lcm"), dE P "SeatError" 399 (.ref 52), dE P "InvalidStrength" 424 (.ref 72), dE P "InvalidCarrier" 449 (.ref 91), dE P "InvalidNumber" 474 (.ref 110), dE P "InvalidBoard" 499 (.ref 129), dE P "InvalidLooks" 524 (.ref 148), dE P "is_whole" 533 (.ref 157), dE P "is_between" 542 (.ref 164), dE P "are_wholes" 548 (.ref 169), dE P "divisor_of" 557 (.ref 176), dE P "lowest" 563 (.ref 181), dE P "sign_of" 570 (.ref 188), dE P "bits_in" 578 (.ref 195), dE P "ZERO" 583 (.ref 196), dE P "ONE" 586 (.ref 197), dE P "is_ratio" 593 (.ref 204), dE P "ratio" 601 (.ref 211), dE P "plus" 609 (.ref 218), dE P "minus" 617 (.ref 225), dE P "times" 625 (.ref 232), dE P "over" 633 (.ref 239), dE P "power" 644 (.ref 246), dE P "total_of" 653 (.ref 253), dE P "is_below" 661 (.ref 260), dE P "side_of_two" 669 (.ref 267), dE P "common_low" 678 (.ref 274), dE P "made_whole" 684 (.ref 279), dE P "trimmed" 694 (.ref 286), dE P "poly_plus" 700 (.ref 291), dE P "poly_scaled" 706 (.ref 296), dE P "poly_minus" 714 (.ref 303), dE P "poly_times" 727 (.ref 310), dE P "poly_up" 735 (.ref 317), dE P "slope_of" 741 (.ref 322), dE P "formed" 748 (.ref 329), dE P "polys_of" 754 (.ref 334), dE P "number_at" 765 (.ref 341), dE P "sign_at" 773 (.ref 348), dE P "divided" 779 (.ref 353), dE P "common_part" 787 (.ref 360), dE P "single_roots" 795 (.ref 367), dE P "without_nought" 803 (.ref 374), dE P "chain_of" 813 (.ref 381), dE P "changes_at" 819 (.ref 386), dE P "bounds_of" 825 (.ref 391), dE P "parting" 835 (.ref 398), dE P "spans_of" 853 (.ref 405), dE P "looks_of" 859 (.ref 410), dE P "row_of" 868 (.ref 417), dE P "SIZES" 876 (.ref 418), dE P "is_amount" 883 (.ref 425), dE P "is_carrier" 889 (.ref 430), dE P "check_carrier" 896 (.ref 437), dE P "check_strength" 903 (.ref 444), dE P "seat_count" 910 (.ref 451), dE P "has_guest" 919 (.ref 458), dE P "with_seats" 925 (.ref 463), dE P "counts_in" 936 (.ref 470), dE P "counts_by" 943 (.ref 477), dE P "split_by" 949 (.ref 482), dE P "terms_at" 960 (.ref 489), dE P "row_at" 968 (.ref 496), dE P "mean_of" 974 (.ref 501), dE P "rising_of" 987 (.ref 508), dE P "bit_of" 998 (.ref 515), dE P "is_free" 1007 (.ref 522), dE P "free_standings" 1013 (.ref 527), dE P "link_over" 1026 (.ref 534), dE P "seat_pairs" 1032 (.ref 539), dE P "all_links" 1038 (.ref 544), dE P "weights_at" 1053 (.ref 551), dE P "share_of" 1059 (.ref 556), dE P "pull_of" 1073 (.ref 563), dE P "shunned_link" 1083 (.ref 570), dE P "leaning_strengths" 1096 (.ref 577), dE P "lowering" 1109 (.ref 584), dE P "fill_gap" 1121 (.ref 591), dE P "bars" 1134 (.ref 598), dE P "barring" 1144 (.ref 605), dE P "MOST_PAIRS" 1148 (.int 3 1147), dE P "MOST_SEATS_baths" 1150 (.int 6 1149), dE P "is_pair" 1157 (.ref 612), dE P "wrong_pair" 1167 (.ref 619), dE P "is_bath" 1174 (.ref 626), dE P "bound_by" 1180 (.ref 631), dE P "bound_polys" 1194 (.ref 638), dE P "bound_gap" 1200 (.ref 643), dE P "BOARD_SIZES" 1206 (.ref 644), dE P "SORT_A" 1208 (.int 1 1207), dE P "SORT_B" 1210 (.int 2 1209), dE P "is_board" 1216 (.ref 649), dE P "check_board" 1223 (.ref 656), dE P "board_count" 1230 (.ref 663), dE P "many_of" 1239 (.ref 670), dE P "rows_beside" 1255 (.ref 677), dE P "counted" 1261 (.ref 682), dE P "push_poly" 1272 (.ref 689), dE P "fills_by" 1284 (.ref 696), dE P "check_both_strengths" 1293 (.ref 703), dE P "push" 1304 (.ref 710), dE P "push_row" 1312 (.ref 717), dE P "is_share" 1321 (.ref 724), dE P "MOST_LOOKS" 1325 (.int 4 1324), dE P "MOST_OF_LOOKS" 1327 (.int 5 1326), dE P "check_look_seats" 1334 (.ref 731), dE P "is_look_for" 1342 (.ref 738), dE P "wrong_look" 1352 (.ref 745), dE P "are_looks" 1360 (.ref 752), dE P "check_looks" 1369 (.ref 759), dE P "are_shares" 1375 (.ref 764), dE P "inequalities_of" 1381 (.ref 769), dE P "is_fitting" 1387 (.ref 774), dE P "PLACES" 1393 (.ref 775), dE P "STEPS" 1398 (.ref 778), dE P "link_between" 1404 (.ref 783), dE P "links_on" 1421 (.ref 790), dE P "low_link" 1429 (.ref 797), dE P "board_links" 1436 (.ref 804), dE P "keeps_apart" 1443 (.ref 811), dE P "powers_of" 1457 (.ref 818), dE P "table_of" 1463 (.ref 823), dE P "Squares" 1520 (.ref 857), dE P "certify_draws" 1530 (.ref 868), dE P "shows_two" 1547 (.ref 875), dE P "shows_likeliest" 1561 (.ref 882), dE P "shows_seat" 1573 (.ref 889), dE P "shows_unlinked" 1589 (.ref 896), dE P "is_lowering" 1595 (.ref 901), dE P "shows_draws" 1601 (.ref 906), dE P "shows_baths" 1614 (.ref 913), dE P "shows_apart" 1620 (.ref 918), dE P "shows_helped" 1631 (.ref 925), dE P "are_weights" 1637 (.ref 930), dE P "sum_for" 1652 (.ref 937), dE P "shows_looks" 1658 (.ref 942), dE P "mean_by" 1671 (.ref 949), dE P "are_bounding" 1686 (.ref 956), dE P "shows_fills" 1700 (.ref 963), dE P "MOST_SEATS_claims" 1704 (.int 5 1703), dE P "is_of_carriers" 1711 (.ref 970), dE P "is_of_one" 1719 (.ref 977), dE P "is_of_others" 1727 (.ref 984), dE P "is_of_looks" 1734 (.ref 991), dE P "is_claim" 1742 (.ref 998), dE P "shows_of_carriers" 1753 (.ref 1005), dE P "shows_of_others" 1762 (.ref 1012), dE P "accepts" 1771 (.ref 1019), dE P "_law_vat" 1783 (.ref 1026), dE P "_law_sip" 1793 (.ref 1033), dE P "_law_of" 1801 (.ref 1040), dE P "_law_common" 1809 (.ref 1047), dE P "_law_low" 1818 (.ref 1054), dE P "_law_take" 1826 (.ref 1061), dE P "_law_mul" 1834 (.ref 1068), dE P "_law_over" 1842 (.ref 1075), dE P "_law_under" 1850 (.ref 1082), dE P "_law_power" 1860 (.ref 1089), dE P "_law_some" 1868 (.ref 1096), dE P "_law_dose" 1876 (.ref 1103), dE P "_law_has" 1884 (.ref 1110), dE P "_law_count_seats" 1891 (.ref 1117), dE P "_law_product" 1901 (.ref 1124), dE P "_law_free" 1907 (.ref 1129), dE P "_law_knot" 1920 (.ref 1136), dE P "_law_knots" 1932 (.ref 1143), dE P "_law_bench" 1938 (.ref 1148), dE P "_law_scaled_up" 1944 (.ref 1153), dE P "_law_parts" 1957 (.ref 1160), dE P "_law_share" 1963 (.ref 1165), dE P "_law_seated" 1969 (.ref 1170), dE P "_law_both" 1975 (.ref 1175), dE P "_law_laps" 1983 (.ref 1182), dE P "_law_seat_pair" 1992 (.ref 1189), dE P "_law_link" 2003 (.ref 1196), dE P "_law_drawing" 2009 (.ref 1201), dE P "_law_owns" 2015 (.ref 1206), dE P "_law_pull" 2024 (.ref 1213), dE P "_law_first" 2035 (.ref 1220), dE P "_law_due" 2050 (.ref 1227), dE P "_law_lowers" 2058 (.ref 1234), dE P "_law_right" 2064 (.ref 1239), dE P "law" 2070 (.ref 1244)]) 193, dN⟩),
  (40, ⟨.none, none, .fields (dA [.int 3 0, .int 0 0, .ref 48, .int 5 0, .int 0 0, .ref 61, .int 9 0, .int 0 0, .ref 80, .int 13 0, .int 0 0, .ref 99, .int 17 0, .int 0 0, .ref 118, .int 21 0, .int 0 0, .ref 137, .int 26 0, .int 0 0, .ref 156, .int 28 0, .int 0 0, .ref 163, .int 30 0, .int 0 0, .ref 168, .int 32 0, .int 0 0, .ref 175, .int 37 0, .int 0 0, .ref 180, .int 40 0, .int 0 0, .ref 187, .int 42 0, .int 0 0, .ref 194, .int 50 0, .int 0 0, .ref 203, .int 52 0, .int 0 0, .ref 210, .int 54 0, .int 0 0, .ref 217, .int 56 0, .int 0 0, .ref 224, .int 58 0, .int 0 0, .ref 231, .int 60 0, .int 0 0, .ref 238, .int 62 0, .int 0 0, .ref 245, .int 67 0, .int 0 0, .ref 252, .int 72 0, .int 0 0, .ref 259, .int 74 0, .int 0 0, .ref 266, .int 76 0, .int 0 0, .ref 273, .int 81 0, .int 0 0, .ref 278, .int 84 0, .int 0 0, .ref 285, .int 89 0, .int 0 0, .ref 290, .int 93 0, .int 0 0, .ref 295, .int 95 0, .int 0 0, .ref 302, .int 97 0, .int 0 0, .ref 309, .int 103 0, .int 0 0, .ref 316, .int 105 0, .int 0 0, .ref 321, .int 107 0, .int 0 0, .ref 328, .int 109 0, .int 0 0, .ref 333, .int 112 0, .int 0 0, .ref 340, .int 117 0, .int 0 0, .ref 347, .int 119 0, .int 0 0, .ref 352, .int 127 0, .int 0 0, .ref 359, .int 131 0, .int 0 0, .ref 366, .int 134 0, .int 0 0, .ref 373, .int 139 0, .int 0 0, .ref 380, .int 145 0, .int 0 0, .ref 385, .int 148 0, .int 0 0, .ref 390, .int 151 0, .int 0 0, .ref 397, .int 156 0, .int 0 0, .ref 404, .int 170 0, .int 0 0, .ref 409, .int 175 0, .int 0 0, .ref 416, .int 186 0, .int 0 0, .ref 424, .int 188 0, .int 0 0, .ref 429, .int 192 0, .int 0 0, .ref 436, .int 195 0, .int 0 0, .ref 443, .int 198 0, .int 0 0, .ref 450, .int 200 0, .int 0 0, .ref 457, .int 204 0, .int 0 0, .ref 462, .int 206 0, .int 0 0, .ref 469, .int 212 0, .int 0 0, .ref 476, .int 214 0, .int 0 0, .ref 481, .int 218 0, .int 0 0, .ref 488, .int 224 0, .int 0 0, .ref 495, .int 226 0, .int 0 0, .ref 500, .int 230 0, .int 0 0, .ref 507, .int 235 0, .int 0 0, .ref 514, .int 240 0, .int 0 0, .ref 521, .int 242 0, .int 0 0, .ref 526, .int 244 0, .int 0 0, .ref 533, .int 248 0, .int 0 0, .ref 538, .int 251 0, .int 0 0, .ref 543, .int 257 0, .int 0 0, .ref 550, .int 264 0, .int 0 0, .ref 555, .int 266 0, .int 0 0, .ref 562, .int 271 0, .int 0 0, .ref 569, .int 277 0, .int 0 0, .ref 576, .int 283 0, .int 0 0, .ref 583, .int 296 0, .int 0 0, .ref 590, .int 300 0, .int 0 0, .ref 597, .int 303 0, .int 0 0, .ref 604, .int 312 0, .int 0 0, .ref 611, .int 314 0, .int 0 0, .ref 618, .int 323 0, .int 0 0, .ref 625, .int 325 0, .int 0 0, .ref 630, .int 327 0, .int 0 0, .ref 637, .int 334 0, .int 0 0, .ref 642, .int 344 0, .int 0 0, .ref 648, .int 348 0, .int 0 0, .ref 655, .int 351 0, .int 0 0, .ref 662, .int 353 0, .int 0 0, .ref 669, .int 360 0, .int 0 0, .ref 676, .int 369 0, .int 0 0, .ref 681, .int 371 0, .int 0 0, .ref 688, .int 375 0, .int 0 0, .ref 695, .int 379 0, .int 0 0, .ref 702, .int 383 0, .int 0 0, .ref 709, .int 387 0, .int 0 0, .ref 716, .int 392 0, .int 0 0, .ref 723, .int 397 0, .int 0 0, .ref 730, .int 400 0, .int 0 0, .ref 737, .int 406 0, .int 0 0, .ref 744, .int 413 0, .int 0 0, .ref 751, .int 415 0, .int 0 0, .ref 758, .int 420 0, .int 0 0, .ref 763, .int 424 0, .int 0 0, .ref 768, .int 432 0, .int 0 0, .ref 773, .int 443 0, .int 0 0, .ref 782, .int 449 0, .int 0 0, .ref 789, .int 461 0, .int 0 0, .ref 796, .int 466 0, .int 0 0, .ref 803, .int 469 0, .int 0 0, .ref 810, .int 473 0, .int 0 0, .ref 817, .int 481 0, .int 0 0, .ref 822, .int 485 0, .int 0 0, .ref 829, .int 524 0, .int 0 0, .ref 867, .int 530 0, .int 0 0, .ref 874, .int 541 0, .int 0 0, .ref 881, .int 550 0, .int 0 0, .ref 888, .int 556 0, .int 0 0, .ref 895, .int 568 0, .int 0 0, .ref 900, .int 576 0, .int 0 0, .ref 905, .int 585 0, .int 0 0, .ref 912, .int 590 0, .int 0 0, .ref 917, .int 597 0, .int 0 0, .ref 924, .int 602 0, .int 0 0, .ref 929, .int 611 0, .int 0 0, .ref 936, .int 617 0, .int 0 0, .ref 941, .int 624 0, .int 0 0, .ref 948, .int 630 0, .int 0 0, .ref 955, .int 637 0, .int 0 0, .ref 962, .int 647 0, .int 0 0, .ref 969, .int 649 0, .int 0 0, .ref 976, .int 658 0, .int 0 0, .ref 983, .int 665 0, .int 0 0, .ref 990, .int 671 0, .int 0 0, .ref 997, .int 687 0, .int 0 0, .ref 1004, .int 698 0, .int 0 0, .ref 1011, .int 707 0, .int 0 0, .ref 1018, .int 713 0, .int 0 0, .ref 1025, .int 719 0, .int 0 0, .ref 1032, .int 727 0, .int 0 0, .ref 1039, .int 729 0, .int 0 0, .ref 1046, .int 734 0, .int 0 0, .ref 1053, .int 737 0, .int 0 0, .ref 1060, .int 739 0, .int 0 0, .ref 1067, .int 741 0, .int 0 0, .ref 1074, .int 743 0, .int 0 0, .ref 1081, .int 745 0, .int 0 0, .ref 1088, .int 750 0, .int 0 0, .ref 1095, .int 752 0, .int 0 0, .ref 1102, .int 759 0, .int 0 0, .ref 1109, .int 761 0, .int 0 0, .ref 1116, .int 763 0, .int 0 0, .ref 1123, .int 769 0, .int 0 0, .ref 1128, .int 771 0, .int 0 0, .ref 1135, .int 777 0, .int 0 0, .ref 1142, .int 784 0, .int 0 0, .ref 1147, .int 798 0, .int 0 0, .ref 1152, .int 803 0, .int 0 0, .ref 1159, .int 811 0, .int 0 0, .ref 1164, .int 813 0, .int 0 0, .ref 1169, .int 815 0, .int 0 0, .ref 1174, .int 818 0, .int 0 0, .ref 1181, .int 820 0, .int 0 0, .ref 1188, .int 823 0, .int 0 0, .ref 1195, .int 826 0, .int 0 0, .ref 1200, .int 836 0, .int 0 0, .ref 1205, .int 838 0, .int 0 0, .ref 1212, .int 840 0, .int 0 0, .ref 1219, .int 849 0, .int 0 0, .ref 1226, .int 864 0, .int 0 0, .ref 1233, .int 866 0, .int 0 0, .ref 1238, .int 888 0, .int 0 0, .ref 1243]), dN⟩)]
def tr8 (P : Params) : PySem.W.BT := setAll (ch8 P) (insAll (ob8 P) (tr7 P) 1027)
def st8 (w : World) (os : OsState) : PySem.W.SharedT := ⟨tr8 w.params, 1245, {}, Array.mk [], {}, 2071, os⟩
end Gu
end
section
set_option Elab.async false
set_option linter.all false
set_option maxRecDepth 100000
set_option maxHeartbeats 0
noncomputable section
namespace Gu
open PySem PySem.W PySem.Calls PyProof.Rows HandSHeadRun
/-! ### the run of the top, group by group -/
section
variable (st : SharedT → Thread → Option (SharedT × Thread)) (n0 : Nat) (ann : Option Value)
def segF : Nat → SharedT → Thread → Option (Flow × SharedT × Code × Pos)
  | 0, _, _ => none
  | m + 1, s, t => match endAt 1 t with
    | some f => some (f, s, t.code, t.pos)
    | none => match stepOk n0 ann t with
      | false => none
      | true => match st s t with
        | some (a, b) => frS a fun a => segF m a b
        | none => none
def preF : Nat → SharedT → Thread → Option (SharedT × Thread)
  | 0, s, t => some (s, t)
  | m + 1, s, t => match through t with
    | true => none
    | false => match stepOk n0 ann t with
      | false => none
      | true => match st s t with
        | some (a, b) => frS a fun a => preF m a b
        | none => none
end
theorem segF_run {tb : String → Option Builtin} {p : Program} {w : World} {n0 : Nat} {ann : Option Value} : ∀ {m : Nat} {s s' : SharedT} {t : Thread} {f : Flow} {c : Code} {q : Pos},
    segF (stepT (denote tb) p w) n0 ann m s t = some (f, s', c, q) → segRun tb p w n0 ann 1 m s.abs t = some (f, s'.abs, c, q) := by
  intro m
  induction m with
  | zero => intro s s' t f c q h; cases h
  | succ m ih =>
    intro s s' t f c q h
    unfold segF at h
    unfold segRun
    cases he : endAt 1 t with
    | some g =>
      rw [he] at h
      simp only [Option.some.injEq, Prod.mk.injEq] at h
      obtain ⟨rfl, rfl, rfl, rfl⟩ := h
      rfl
    | none =>
      rw [he] at h
      cases hk : stepOk n0 ann t with
      | false => rw [hk] at h; cases h
      | true =>
        rw [hk] at h
        dsimp only at h ⊢
        cases hs : stepT (denote tb) p w s t with
        | none => rw [hs] at h; cases h
        | some r =>
          obtain ⟨a, b⟩ := r
          rw [hs] at h
          dsimp only at h
          rw [frS_eq] at h
          rw [stepT_spec hs]
          exact ih h
theorem preF_run {tb : String → Option Builtin} {p : Program} {w : World} {n0 : Nat} {ann : Option Value} : ∀ {m : Nat} {s s' : SharedT} {t t' : Thread},
    preF (stepT (denote tb) p w) n0 ann m s t = some (s', t') → topGo tb p w n0 ann m s.abs t = some (s'.abs, t') := by
  intro m
  induction m with
  | zero =>
    intro s s' t t' h
    unfold preF at h
    simp only [Option.some.injEq, Prod.mk.injEq] at h
    obtain ⟨rfl, rfl⟩ := h
    rfl
  | succ m ih =>
    intro s s' t t' h
    unfold preF at h
    unfold topGo
    cases he : through t with
    | true => rw [he] at h; cases h
    | false =>
      rw [he] at h
      cases hk : stepOk n0 ann t with
      | false => rw [hk] at h; cases h
      | true =>
        rw [hk] at h
        dsimp only at h ⊢
        cases hs : stepT (denote tb) p w s t with
        | none => rw [hs] at h; cases h
        | some r =>
          obtain ⟨a, b⟩ := r
          rw [hs] at h
          dsimp only at h
          rw [frS_eq] at h
          rw [stepT_spec hs]
          exact ih h
/-- the twins -/
def stQ (w : World) : SharedT → Thread → Option (SharedT × Thread) := stepQ (denQ tabQ) PR w
theorem stQ_eq (w : World) : stQ w = stepT (denote treeTable) PR w := by
  unfold stQ
  rw [stepQ_eq, denQ_eq, tabQ_eq]
abbrev ann0 : Option Value := some (.ref 6)
def envT : Env := { scope := PR.main.scope, locals := mainNs, globals := mainNs, cells := [], code := .ref 41, frame := some 42 }
def bodyT : List Stmt := behindTheImports PR
def codeT : Code := .body bodyT envT
abbrev pos0 : Pos := ⟨0, 0, 0, 0⟩
abbrev BT0 : List Frame := [topFrame pos0]
/-- the statements a + 1 .. b of the text -/
def grp (a b : Nat) : List Stmt := (bodyT.take b).drop a
theorem r0 (w : World) : (((impF (stepQ (denQ tabQ) (opening PR) w) 13000 (startT (opening PR)) (start (opening PR)).2).bind fun s => fenceQ PR s.abs).map fun s => (s.heap, s.gens, s.drawn, s.toks)) = some (absHeap (tr0 w.params) 39 {}, Array.mk [], {}, 374) := by kernel_rfl
theorem r1 (w : World) (os : OsState) : preF (stQ w) 39 ann0 12 (st0 w os) (topStub PR) = some (st1 w os, ⟨denQ tabQ codeT, codeT, pos0, BT0⟩) := by kernel_rfl
theorem r1b (w : World) (os : OsState) : segF (stQ w) 39 ann0 5 (st1 w os) (blockOf bodyT envT codeT pos0 BT0) = some (.next, st1 w os, codeT, pos0) := by kernel_rfl
theorem r2 (w : World) (os : OsState) : segF (stQ w) 39 ann0 1500 (st1 w os) (piecesOf (grp 0 7) envT codeT pos0 BT0) = some (.next, st2 w os, codeT, ⟨21, 0, 24, 26⟩) := by kernel_rfl
theorem r3 (w : World) (os : OsState) : segF (stQ w) 39 ann0 1500 (st2 w os) (piecesOf (grp 7 50) envT codeT ⟨21, 0, 24, 26⟩ BT0) = some (.next, st3 w os, codeT, ⟨151, 0, 155, 16⟩) := by kernel_rfl
theorem r4 (w : World) (os : OsState) : segF (stQ w) 39 ann0 1500 (st3 w os) (piecesOf (grp 50 90) envT codeT ⟨151, 0, 155, 16⟩ BT0) = some (.next, st4 w os, codeT, ⟨309, 0, 309, 8⟩) := by kernel_rfl
theorem r5 (w : World) (os : OsState) : segF (stQ w) 39 ann0 1500 (st4 w os) (piecesOf (grp 90 137) envT codeT ⟨309, 0, 309, 8⟩ BT0) = some (.next, st5 w os, codeT, ⟨481, 0, 484, 82⟩) := by kernel_rfl
theorem r6 (w : World) (os : OsState) : segF (stQ w) 39 ann0 1500 (st5 w os) (piecesOf (grp 137 138) envT codeT ⟨481, 0, 484, 82⟩ BT0) = some (.next, st6 w os, codeT, ⟨485, 0, 522, 95⟩) := by kernel_rfl
theorem r7 (w : World) (os : OsState) : segF (stQ w) 39 ann0 1500 (st6 w os) (piecesOf (grp 138 170) envT codeT ⟨485, 0, 522, 95⟩ BT0) = some (.next, st7 w os, codeT, ⟨713, 0, 718, 105⟩) := by kernel_rfl
theorem r8 (w : World) (os : OsState) : segF (stQ w) 39 ann0 1500 (st7 w os) (piecesOf (grp 170 204) envT codeT ⟨713, 0, 718, 105⟩ BT0) = some (.next, st8 w os, codeT, ⟨888, 0, 889, 103⟩) := by kernel_rfl
end Gu
end
end
section
set_option Elab.async false
set_option linter.all false
set_option maxRecDepth 100000
set_option maxHeartbeats 0
noncomputable section
namespace Gu
open PySem PySem.W PySem.Calls PyProof.Rows HandSHeadRun
def lo0 : List Str := ["SeatError", "InvalidStrength", "InvalidCarrier", "InvalidNumber", "InvalidBoard", "InvalidLooks", "is_whole", "is_between", "are_wholes", "divisor_of", "lowest", "sign_of", "bits_in", "ZERO", "ONE", "is_ratio", "ratio", "plus", "minus", "times", "over", "power", "total_of", "is_below", "side_of_two", "common_low", "made_whole", "trimmed", "poly_plus", "poly_scaled"]
def lo1 : List Str := ["poly_minus", "poly_times", "poly_up", "slope_of", "formed", "polys_of", "number_at", "sign_at", "divided", "common_part", "single_roots", "without_nought", "chain_of", "changes_at", "bounds_of", "parting", "spans_of", "looks_of", "row_of", "SIZES", "is_amount", "is_carrier", "check_carrier", "check_strength", "seat_count", "has_guest", "with_seats", "counts_in", "counts_by", "split_by"]
def lo2 : List Str := ["terms_at", "row_at", "mean_of", "rising_of", "bit_of", "is_free", "free_standings", "link_over", "seat_pairs", "all_links", "weights_at", "share_of", "pull_of", "shunned_link", "leaning_strengths", "lowering", "fill_gap", "bars", "barring", "MOST_PAIRS", "MOST_SEATS_baths", "is_pair", "wrong_pair", "is_bath", "bound_by", "bound_polys", "bound_gap", "BOARD_SIZES", "SORT_A", "SORT_B"]
def lo3 : List Str := ["is_board", "check_board", "board_count", "many_of", "rows_beside", "counted", "push_poly", "fills_by", "check_both_strengths", "push", "push_row", "is_share", "MOST_LOOKS", "MOST_OF_LOOKS", "check_look_seats", "is_look_for", "wrong_look", "are_looks", "check_looks", "are_shares", "inequalities_of", "is_fitting", "PLACES", "STEPS", "link_between", "links_on", "low_link", "board_links", "keeps_apart", "powers_of"]
def lo4 : List Str := ["table_of", "Squares", "certify_draws", "shows_two", "shows_likeliest", "shows_seat", "shows_unlinked", "is_lowering", "shows_draws", "shows_baths", "shows_apart", "shows_helped", "are_weights", "sum_for", "shows_looks", "mean_by", "are_bounding", "shows_fills", "MOST_SEATS_claims", "is_of_carriers", "is_of_one", "is_of_others", "is_of_looks", "is_claim", "shows_of_carriers", "shows_of_others", "accepts", "_law_vat", "_law_sip", "_law_of"]
def lo5 : List Str := ["_law_common", "_law_low", "_law_take", "_law_mul", "_law_over", "_law_under", "_law_power", "_law_some", "_law_dose", "_law_has", "_law_count_seats", "_law_product", "_law_free", "_law_knot", "_law_knots", "_law_bench", "_law_scaled_up", "_law_parts", "_law_share", "_law_seated", "_law_both", "_law_laps", "_law_seat_pair", "_law_link", "_law_drawing", "_law_owns", "_law_pull", "_law_first", "_law_due", "_law_lowers"]
def lo6 : List Str := ["_law_right"]
def loA : List Str := lo0 ++ lo1 ++ lo2 ++ lo3 ++ lo4 ++ lo5 ++ lo6
def vw : List Nat := [0, 204]
abbrev RR : PySem.W.OpenRow := PySem.W.OpenLaw.row PySem.Challenge.rw_guestseats_k37_whole_lowerings
abbrev qv : Program := PySem.W.view RR.prog vw
abbrev XtL : Shared → Bool := fun s => xlAt qv [] s && recOk RR.toRowW.records s
theorem s1 (w : World) : staticsOk (importedModules PR.main.body) (absHeap (tr0 w.params) 39 {}) (absHeap (tr8 w.params) 1245 {}) = true := by kernel_rfl
theorem s2 (w : World) : namesBound PR (absHeap (tr8 w.params) 1245 {}) = true := by kernel_rfl
theorem s3 (w : World) : laidKept (absHeap (tr0 w.params) 39 {}) (absHeap (tr8 w.params) 1245 {}) = true := by kernel_rfl
theorem s4 (w : World) (os : OsState) : openSeen qv loA (importedModules PR.main.body) XtL true (st8 w os).abs = openGood qv loA := by kernel_rfl
end Gu
end
end
section
set_option Elab.async false
set_option linter.all false
set_option maxRecDepth 100000
set_option maxHeartbeats 0
noncomputable section
namespace Gu
open PySem PySem.W PySem.Calls PyProof.Rows HandSHeadRun L2
def asL : List Addr := [3, 196, 197, 418, 157, 156, 164, 163, 169, 168, 176, 175, 181, 180, 204, 203, 211, 210, 225, 224, 218, 217, 232, 231, 239, 238, 253, 252, 260, 259, 425, 424, 430, 429, 437, 436, 451, 450, 458, 457, 463, 462, 515, 514, 522, 521, 527, 526, 534, 533, 539, 538, 544, 543, 551, 550, 556, 555, 563, 562, 570, 569, 577, 576, 584, 583, 868, 867, 901, 900, 906, 905, 977, 976, 998, 997, 1005, 1004, 1019, 1018, 1026, 1025, 1033, 1032, 1040, 1039, 1047, 1046, 1054, 1053, 1061, 1060, 1068, 1067, 1075, 1074, 1082, 1081, 1089, 1088, 1096, 1095, 1103, 1102, 1110, 1109, 1117, 1116, 1124, 1123, 1129, 1128, 1136, 1135, 1143, 1142, 1148, 1147, 1153, 1152, 1160, 1159, 1165, 1164, 1170, 1169, 1175, 1174, 1182, 1181, 1189, 1188, 1196, 1195, 1201, 1200, 1206, 1205, 1213, 1212, 1220, 1219, 1227, 1226, 1234, 1233, 1239, 1238, 1244, 1243]
abbrev AlG : Type := He.AlD × Bool
def hkG : PySem.W.Hook where
  α := AlG
  obs := fun s => (He.obsD fgA fnA (He.frG s.heap.get? asL), exB (He.frG s.heap.get? asL))
  val := fun _ => (He.valD fnA, true)
  says := fun _ h => ∃ K : PySem.W.Frag, K.In h ∧ He.SaysD fgA fnA K ∧ exB K = true
  of := fun _ s e => ⟨_, He.frG_in, congrArg Prod.fst e, congrArg Prod.snd e⟩
  keeps := fun _ _ _ ⟨K, hK, c⟩ k => ⟨K, PySem.W.Frag.In.keeps hK k, c⟩
theorem s5 (w : World) (os : OsState) : (He.obsD fgA fnA (He.frG (getT (st8 w os)) asL), exB (He.frG (getT (st8 w os)) asL)) = (He.valD fnA, true) := by kernel_rfl
end Gu
end
end
section
set_option Elab.async false
set_option linter.all false
set_option maxRecDepth 100000
set_option maxHeartbeats 200000
noncomputable section
namespace Gu
open PySem PySem.W PySem.Calls PyProof.Rows HandSHeadRun L2
theorem seg_of {w : World} {m : Nat} {a b : SharedT} {l : List Stmt} {q c' : Pos} (h : segF (stQ w) 39 ann0 m a (piecesOf l envT codeT q BT0) = some (.next, b, codeT, c')) :
    segRun treeTable PR w 39 ann0 1 m a.abs (piecesOf l envT codeT q BT0) = some (.next, b.abs, codeT, c') := by
  rw [stQ_eq] at h
  exact segF_run h
theorem body_cut : bodyT = grp 0 7 ++ (grp 7 50 ++ (grp 50 90 ++ (grp 90 137 ++ (grp 137 138 ++ (grp 138 170 ++ (grp 170 204 ++ [])))))) := by kernel_rfl
theorem r9 (w : World) (os : OsState) : topRun treeTable PR w 39 ann0 5 (st8 w os).abs ⟨doneF .next, codeT, ⟨888, 0, 889, 103⟩, BT0⟩ = some (st8 w os).abs := by kernel_rfl
theorem top_run (w : World) (os : OsState) : topRun treeTable PR w 39 ann0 (12 + (5 + (1500 + (1500 + (1500 + (1500 + (1500 + (1500 + (1500 + 5))))))))) (st0 w os).abs (topStub PR) = some (st8 w os).abs := by
  have e1 := r1 w os
  rw [stQ_eq, denQ_eq.symm, tabQ_eq.symm] at e1
  refine go_top (preF_run e1) ?_
  have eb := r1b w os
  rw [stQ_eq] at eb
  refine piece_block (segF_run eb) ?_
  rw [body_cut]
  refine piece_app (seg_of (r2 w os)) ?_
  refine piece_app (seg_of (r3 w os)) ?_
  refine piece_app (seg_of (r4 w os)) ?_
  refine piece_app (seg_of (r5 w os)) ?_
  refine piece_app (seg_of (r6 w os)) ?_
  refine piece_app (seg_of (r7 w os)) ?_
  refine piece_app (seg_of (r8 w os)) ?_
  refine piece_nil ?_
  exact r9 w os
theorem open_gen {p : Program} {w : World} {N : Nat} {X : Heap × Array GenState × Drawn × Nat}
    (e : (((impF (stepT (denote treeTable) (opening p) w) N (startT (opening p)) (start (opening p)).2).bind fun s => fenceModules? p s.abs).map fun s => (s.heap, s.gens, s.drawn, s.toks)) = some X) :
    (fencedOpening treeTable p w N).map (fun s => (s.heap, s.gens, s.drawn, s.toks)) = some X := by
  obtain ⟨z, h1, h2⟩ := Option.map_eq_some_iff.mp e
  obtain ⟨s, h3, h4⟩ := Option.bind_eq_some_iff.mp h1
  have a1 := impF_ok h3
  rw [startT_eq] at a1
  unfold fencedOpening
  rw [a1]
  show (fenceModules? p s.abs).map _ = _
  rw [h4]
  exact congrArg some h2
theorem open_ok (w : World) : (fencedOpening treeTable PR w 13000).map (fun s => (s.heap, s.gens, s.drawn, s.toks)) = some (absHeap (tr0 w.params) 39 {}, Array.mk [], {}, 374) := by
  have e := r0 w
  rw [denQ_eq.symm, tabQ_eq.symm, stepQ_eq.symm, fenceQ_eq.symm] at e
  exact open_gen e
theorem size_ok (w : World) : ((absHeap (tr0 w.params) 39 {}).isNs mainGlobals && (Array.mk [] : Array GenState).size == 0, (absHeap (tr0 w.params) 39 {}).objs.size, (absHeap (tr0 w.params) 39 {}).nsMap mainGlobals "__annotations__") = (true, 39, ann0) := by kernel_rfl
theorem obs_gen {s : SharedT} (z : (He.obsD fgA fnA (He.frG (getT s) asL), exB (He.frG (getT s) asL)) = (He.valD fnA, true)) : hkG.obs s.abs = (He.valD fnA, true) := by
  have e : getT s = s.abs.heap.get? := funext fun a => getT_eq s a
  rw [e] at z
  exact z
theorem obs_ok (w : World) (os : OsState) : hkG.obs (st8 w os).abs = (He.valD fnA, true) := obs_gen (s5 w os)
end Gu
end
end
section
set_option maxRecDepth 100000
set_option maxHeartbeats 400000
noncomputable section
namespace Gu
open PySem PySem.W PySem.Calls PyProof.Rows HandSHeadRun L2
theorem looks_gen {p q : Program} {loose mods : List PySem.Str} {Xt : Shared → Bool} {α : Type} {Yf : Shared → α} {y : α} {h0 : Heap} {s : Shared}
    (a1 : staticsOk mods h0 s.heap = true) (a2 : namesBound p s.heap = true) (a3 : gensDone s = true) (a4 : laidKept h0 s.heap = true) (a5 : openSeen q loose mods Xt true s = openGood q loose) (a6 : Yf s = y) :
    ((staticsOk mods h0 s.heap && namesBound p s.heap && gensDone s && laidKept h0 s.heap), openSeen q loose mods Xt true s, Yf s) = (true, openGood q loose, y) := by
  rw [a1, a2, a3, a4, a5, a6]
  rfl
theorem left_gen {p q : Program} {loose : List PySem.Str} {Xt : Shared → Bool} {α : Type} {Yf : Shared → α} {Ya : World → α} {N M m0 k0 k1 : Nat} {ann : Option Value} {H0 H1 : Params → Heap}
    (o : ∀ w : World, (fencedOpening treeTable p w N).map (fun s => (s.heap, s.gens, s.drawn, s.toks)) = some (H0 w.params, Array.mk [], {}, k0))
    (z : ∀ w : World, ((H0 w.params).isNs mainGlobals && (Array.mk [] : Array GenState).size == 0, (H0 w.params).objs.size, (H0 w.params).nsMap mainGlobals "__annotations__") = (true, m0, ann))
    (r : ∀ (w : World) (os : OsState), topRun treeTable p w m0 ann M ⟨H0 w.params, Array.mk [], {}, k0, os⟩ (topStub p) = some ⟨H1 w.params, Array.mk [], {}, k1, os⟩) (le : Nat.ble M N = true)
    (l1 : ∀ w : World, staticsOk (importedModules p.main.body) (H0 w.params) (H1 w.params) = true) (l2 : ∀ w : World, namesBound p (H1 w.params) = true) (l4 : ∀ w : World, laidKept (H0 w.params) (H1 w.params) = true)
    (l5 : ∀ (w : World) (os : OsState), openSeen q loose (importedModules p.main.body) Xt true ⟨H1 w.params, Array.mk [], {}, k1, os⟩ = openGood q loose) (l6 : ∀ (w : World) (os : OsState), Yf ⟨H1 w.params, Array.mk [], {}, k1, os⟩ = Ya w) :
    LeftO p q loose Xt Yf Ya N true :=
  LeftO.of_pieces o z r le fun w => funext fun os => looks_gen (s := ⟨H1 w.params, Array.mk [], {}, k1, os⟩) (l1 w) (l2 w) rfl (l4 w) (l5 w os) (l6 w os)
def H0T (P : Params) : Heap := absHeap (tr0 P) 39 {}
def H1T (P : Params) : Heap := absHeap (tr8 P) 1245 {}
theorem abs0 (w : World) (os : OsState) : (st0 w os).abs = ⟨H0T w.params, Array.mk [], {}, 374, os⟩ := by kernel_rfl
theorem abs8 (w : World) (os : OsState) : (st8 w os).abs = ⟨H1T w.params, Array.mk [], {}, 2071, os⟩ := by kernel_rfl
theorem q1 (w : World) (os : OsState) : topRun treeTable PR w 39 ann0 10522 ⟨H0T w.params, Array.mk [], {}, 374, os⟩ (topStub PR) = some ⟨H1T w.params, Array.mk [], {}, 2071, os⟩ := by
  rw [← abs0, ← abs8]
  exact top_run w os
theorem q2 (w : World) (os : OsState) : openSeen qv loA (importedModules PR.main.body) XtL true ⟨H1T w.params, Array.mk [], {}, 2071, os⟩ = openGood qv loA := by
  rw [← abs8]
  exact s4 w os
theorem q3 (w : World) (os : OsState) : hkG.obs ⟨H1T w.params, Array.mk [], {}, 2071, os⟩ = hkG.val w := by
  rw [← abs8]
  exact obs_ok w os
theorem left : LeftO PR qv loA XtL hkG.obs hkG.val 13000 true :=
  left_gen (H0 := H0T) (H1 := H1T) (k0 := 374) (k1 := 2071) (m0 := 39) (ann := ann0) (M := 10522) open_ok size_ok q1 rfl s1 s2 s3 q2 q3
end Gu
end
end
section
set_option Elab.async false
set_option linter.all false
set_option maxRecDepth 100000
set_option maxHeartbeats 0
noncomputable section
namespace Gu
open PySem PySem.W PySem.Calls PyProof.Rows HandSHeadRun L2
/-! ### the tables are whole: group by group -/
theorem wss_app {α : Type} (A : PySem.TablesWhole.Alg α) (h1 : ∀ a, A.both A.unit a = a) (h2 : ∀ a b c, A.both (A.both a b) c = A.both a (A.both b c)) (top : Scope) (cx : PySem.TablesWhole.Ctx) (sc : Scope) : ∀ l r : List Stmt, PySem.TablesWhole.wSs A top cx sc (l ++ r) = A.both (PySem.TablesWhole.wSs A top cx sc l) (PySem.TablesWhole.wSs A top cx sc r)
  | [], r => by
    rw [List.nil_append, PySem.TablesWhole.wSs, h1]
  | s :: l, r => by
    rw [List.cons_append, PySem.TablesWhole.wSs, PySem.TablesWhole.wSs, wss_app A h1 h2 top cx sc l r, h2]
def grM (a b : Nat) : List Stmt := (PR.main.body.take b).drop a
def scM : Scope := PR.main.scope
def toldG (l : List Stmt) : List Str := PySem.TablesWhole.wSs PySem.TablesWhole.gather scM ⟨scM, [], [], [], none⟩ scM l
def heldG (l : List Stmt) : Bool := PySem.TablesWhole.wSs PySem.TablesWhole.holds scM ⟨scM, [], [], [], none⟩ scM l
theorem body_cut3 : PR.main.body = grM 0 40 ++ (grM 40 80 ++ (grM 80 120 ++ (grM 120 150 ++ (grM 150 170 ++ (grM 170 190 ++ grM 190 205))))) := by kernel_rfl
theorem told1 : toldG (grM 0 40) = [] := by kernel_rfl
theorem told2 : toldG (grM 40 80) = [] := by kernel_rfl
theorem told3 : toldG (grM 80 120) = [] := by kernel_rfl
theorem told4 : toldG (grM 120 150) = [] := by kernel_rfl
theorem told5 : toldG (grM 150 170) = [] := by kernel_rfl
theorem told6 : toldG (grM 170 190) = [] := by kernel_rfl
theorem told7 : toldG (grM 190 205) = [] := by kernel_rfl
theorem held1 : heldG (grM 0 40) = true := by kernel_rfl
theorem held2 : heldG (grM 40 80) = true := by kernel_rfl
theorem held3 : heldG (grM 80 120) = true := by kernel_rfl
theorem held4 : heldG (grM 120 150) = true := by kernel_rfl
theorem held5 : heldG (grM 150 170) = true := by kernel_rfl
theorem held6 : heldG (grM 170 190) = true := by kernel_rfl
theorem held7 : heldG (grM 190 205) = true := by kernel_rfl
theorem told_cat (l r : List Stmt) : toldG (l ++ r) = toldG l ++ toldG r := wss_app PySem.TablesWhole.gather (fun a => List.nil_append a) (fun a b c => List.append_assoc a b c) _ _ _ l r
theorem held_cat (l r : List Stmt) : heldG (l ++ r) = (heldG l && heldG r) := wss_app PySem.TablesWhole.holds (fun a => Bool.true_and a) (fun a b c => Bool.and_assoc a b c) _ _ _ l r
theorem told_all : toldG PR.main.body = [] := by
  rw [body_cut3, told_cat, told_cat, told_cat, told_cat, told_cat, told_cat, told1, told2, told3, told4, told5, told6, told7]
  simp only [List.append_nil]
theorem held_all : heldG PR.main.body = true := by
  rw [body_cut3, held_cat, held_cat, held_cat, held_cat, held_cat, held_cat, held1, held2, held3, held4, held5, held6, held7]
  simp only [Bool.and_self]
theorem module_gen (m : Module) (h1 : PySem.TablesWhole.wSs PySem.TablesWhole.gather m.scope ⟨m.scope, [], [], [], none⟩ m.scope m.body = []) (h2 : PySem.TablesWhole.noTwice m.scope = true) (h3 : PySem.TablesWhole.wSs PySem.TablesWhole.holds m.scope ⟨m.scope, [], [], [], none⟩ m.scope m.body = true) : PySem.TablesWhole.wModule PySem.TablesWhole.holds m = true := by
  unfold PySem.TablesWhole.wModule
  rw [h1, h2]
  dsimp only
  rw [h3]
  rfl
theorem program_gen (p : Program) (h : PySem.TablesWhole.wModule PySem.TablesWhole.holds p.main = true) (h1 : p.modules = []) (h2 : p.parses = []) (h3 : p.harvested = []) : p.tablesWhole = true := by
  unfold Program.tablesWhole PySem.TablesWhole.wProgram
  rw [h, h1, h2, h3]
  rfl
theorem twice0 : PySem.TablesWhole.noTwice scM = true := by kernel_rfl
theorem main_whole : PySem.TablesWhole.wModule PySem.TablesWhole.holds PR.main = true := module_gen PR.main told_all twice0 held_all
theorem tables0 : PR.tablesWhole = true := program_gen PR main_whole rfl rfl rfl
theorem bare0 : PR.bare := ⟨rfl, rfl, rfl, rfl, rfl, tables0⟩
theorem bareR : RR.prog.bare := bare0
end Gu
end
end
section
set_option Elab.async false
set_option linter.all false
set_option maxRecDepth 100000
set_option maxHeartbeats 0
noncomputable section
namespace Gu
open PySem PySem.W PySem.Calls PyProof.Rows HandSHeadRun L2
theorem bear_app : ∀ a b : List Stmt, bearImports (a ++ b) = (bearImports a || bearImports b)
  | [], b => by simp [bearImports]
  | s :: a, b => by
    have ih := bear_app a b
    simp only [List.cons_append, bearImports, ih, Bool.or_assoc]
theorem bear1 : bearImports (grp 0 50) = false := by decide +kernel
theorem bear2 : bearImports (grp 50 137) = false := by decide +kernel
theorem bear3 : bearImports (grp 137 138) = false := by decide +kernel
theorem bear4 : bearImports (grp 138 170) = false := by decide +kernel
theorem bear5 : bearImports (grp 170 190) = false := by decide +kernel
theorem bear6 : bearImports (grp 190 204) = false := by decide +kernel
theorem body_cut2 : bodyT = grp 0 50 ++ (grp 50 137 ++ (grp 137 138 ++ (grp 138 170 ++ (grp 170 190 ++ (grp 190 204 ++ []))))) := by kernel_rfl
theorem bear_all : bearImports (behindTheImports PR) = false := by
  show bearImports bodyT = false
  rw [body_cut2, bear_app, bear_app, bear_app, bear_app, bear_app, bear_app, bear1, bear2, bear3, bear4, bear5, bear6]
  simp [bearImports]
theorem tame0 : (opening PR).tameTopW = true := by decide +kernel
theorem opens0 : opensWell PR = true := by
  unfold opensWell
  rw [tame0, bear_all]
  rfl
theorem chains0 : chainsOk qv = true := by decide +kernel
theorem opensR : opensWell RR.prog = true := opens0
theorem freesR : (frees RR.toRowW && RR.within.isEmpty) = true := by decide +kernel
theorem okR : (chainsOk qv && opensWell RR.prog && (frees RR.toRowW && RR.within.isEmpty)) = true := by
  rw [chains0, opensR, freesR]
  rfl
theorem defR : defOf qv RR.name = some (topDef RR.prog 204, []) := by kernel_rfl
theorem theR : RR.prog.theDef RR.name = some ((topDef RR.prog 204).params, (topDef RR.prog 204).body, (topDef RR.prog 204).scope) := by kernel_rfl
end Gu
end
end
section
set_option Elab.async false
set_option linter.all false
set_option maxRecDepth 100000
set_option maxHeartbeats 1000000
/-! ## A layer of states told by data: slots, owned lists, what an expression gives -/
namespace Gu
open PySem PySem.Spec PyProof.Rows L2

/-! ### data at a heap -/
mutual
inductive Dq (K : PySem.W.Frag) (D : Hp) : V → PyData → Prop
  | non : Dq K D .non .none
  | bl (b : Bool) : Dq K D (.bl b) (.bool b)
  | int (i : Int) : Dq K D (.int i) (.int i)
  | str (x : Str) : Dq K D (.str x) (.str x)
  | lst {a : Addr} {xs : List V} {ds : List PyData} (h : D a = some (.lst xs)) (q : DqL K D xs ds) : Dq K D (.ref a) (.list ds)
  | tup {a : Addr} {xs : List V} {ds : List PyData} (h : SqT K D a xs) (q : DqL K D xs ds) : Dq K D (.ref a) (.tuple ds)
inductive DqL (K : PySem.W.Frag) (D : Hp) : List V → List PyData → Prop
  | nil : DqL K D [] []
  | cons {v : V} {vs : List V} {d : PyData} {ds : List PyData} (h : Dq K D v d) (q : DqL K D vs ds) : DqL K D (v :: vs) (d :: ds)
end
theorem sqT_mono {K : PySem.W.Frag} {D D' : Hp} {a : Addr} {xs : List V} (e : Same D D') (h : SqT K D a xs) : SqT K D' a xs := by
  rcases h with (h | ⟨o, h⟩) | h
  · exact .inl (.inl (e _ _ h))
  · exact .inl (.inr ⟨o, e _ _ h⟩)
  · exact .inr h
mutual
theorem Dq.mono {K : PySem.W.Frag} {D D' : Hp} (e : Same D D') : ∀ (d : PyData) (v : V), Dq K D v d → Dq K D' v d
  | .none, _, h => by cases h; exact .non
  | .bool b, _, h => by cases h; exact .bl b
  | .int i, _, h => by cases h; exact .int i
  | .str x, _, h => by cases h; exact .str x
  | .list ds, _, h => by cases h with | lst h q => exact .lst (e _ _ h) (DqL.mono e ds _ q)
  | .tuple ds, _, h => by cases h with | tup h q => exact .tup (sqT_mono e h) (DqL.mono e ds _ q)
  | .dict _, _, h => by cases h
theorem DqL.mono {K : PySem.W.Frag} {D D' : Hp} (e : Same D D') : ∀ (ds : List PyData) (vs : List V), DqL K D vs ds → DqL K D' vs ds
  | [], _, h => by cases h; exact .nil
  | d :: ds, _, h => by cases h with | cons h q => exact .cons (Dq.mono e d _ h) (DqL.mono e ds _ q)
end
mutual
theorem Dq.dp {K : PySem.W.Frag} {D : Hp} : ∀ (d : PyData) (v : V), Dq K D v d → Dp K D v d
  | .none, _, h => by cases h; exact .non
  | .bool b, _, h => by cases h; exact .bl b
  | .int i, _, h => by cases h; exact .int i
  | .str x, _, h => by cases h; exact .str x
  | .list ds, _, h => by cases h with | lst h q => exact .lst (.inl (.inl h)) (DqL.dp ds _ q)
  | .tuple ds, _, h => by cases h with | tup h q => exact .tup h (DqL.dp ds _ q)
  | .dict _, _, h => by cases h
theorem DqL.dp {K : PySem.W.Frag} {D : Hp} : ∀ (ds : List PyData) (vs : List V), DqL K D vs ds → DpAll K D vs ds
  | [], _, h => by cases h; exact .nil
  | d :: ds, _, h => by cases h with | cons h q => exact .cons (Dq.dp d _ h) (DqL.dp ds _ q)
end
section
variable {K : PySem.W.Frag} {D : Hp}
theorem DqL.len : ∀ {vs : List V} {ds : List PyData}, DqL K D vs ds → vs.length = ds.length
  | _, [], h => by cases h; rfl
  | _, d :: ds, h => by cases h with | cons h q => rw [List.length_cons, List.length_cons, DqL.len q]
theorem DqL.at : ∀ {vs : List V} {ds : List PyData} {i : Nat} {d : PyData}, DqL K D vs ds → ds[i]? = some d → ∃ v, vs[i]? = some v ∧ Dq K D v d
  | _, [], _, _, h, e => by simp at e
  | _, d :: ds, 0, _, h, e => by
    cases h with
    | cons h q =>
      have e2 : d = _ := Option.some.inj e
      subst e2
      exact ⟨_, rfl, h⟩
  | _, d :: ds, i + 1, _, h, e => by
    cases h with
    | cons h q => exact DqL.at (i := i) q (by simpa using e)
theorem DqL.at' {vs : List V} {ds : List PyData} {i : Nat} {v : V} (h : DqL K D vs ds) (e : vs[i]? = some v) : ∃ d, ds[i]? = some d ∧ Dq K D v d := by
  have l := h.len
  have li : i < vs.length := (List.getElem?_eq_some_iff.mp e).1
  obtain ⟨u, e2, q⟩ := h.at (i := i) (d := ds[i]'(by omega)) (List.getElem?_eq_getElem (by omega))
  rw [e] at e2
  cases e2
  exact ⟨_, List.getElem?_eq_getElem (by omega), q⟩
theorem DqL.app : ∀ {vs ws : List V} {ds es : List PyData}, DqL K D vs ds → DqL K D ws es → DqL K D (vs ++ ws) (ds ++ es)
  | _, _, [], _, h, k => by cases h; exact k
  | _, _, d :: ds, _, h, k => by cases h with | cons h q => exact .cons h (DqL.app q k)
theorem DqL.set : ∀ {vs : List V} {ds : List PyData} {v : V} {d : PyData} (i : Nat), DqL K D vs ds → Dq K D v d → DqL K D (vs.set i v) (ds.set i d)
  | _, [], _, _, _, h, k => by cases h; exact .nil
  | _, d :: ds, _, _, 0, h, k => by cases h with | cons h q => exact .cons k q
  | _, d :: ds, _, _, i + 1, h, k => by cases h with | cons h q => exact .cons h (DqL.set i q k)
theorem DqL.drop : ∀ {vs : List V} {ds : List PyData} (n : Nat), DqL K D vs ds → DqL K D (vs.drop n) (ds.drop n)
  | _, _, 0, h => h
  | _, [], n + 1, h => by cases h; exact .nil
  | _, d :: ds, n + 1, h => by cases h with | cons h q => exact DqL.drop n q
theorem DqL.take : ∀ {vs : List V} {ds : List PyData} (n : Nat), DqL K D vs ds → DqL K D (vs.take n) (ds.take n)
  | _, _, 0, h => .nil
  | _, [], n + 1, h => by cases h; exact .nil
  | _, d :: ds, n + 1, h => by cases h with | cons h q => exact .cons h (DqL.take n q)
theorem DqL.rep {vs : List V} {ds : List PyData} (h : DqL K D vs ds) : ∀ k : Nat, DqL K D (List.replicate k vs).flatten (List.replicate k ds).flatten
  | 0 => .nil
  | k + 1 => by
    rw [List.replicate_succ, List.replicate_succ, List.flatten_cons, List.flatten_cons]
    exact h.app (DqL.rep h k)
theorem DqL.ints : ∀ {vs : List V} {ns : List Int}, DqL K D vs (ns.map PyData.int) → vs = ns.map V.int
  | _, [], h => by cases h; rfl
  | _, n :: ns, h => by
    cases h with
    | cons h q =>
      cases h
      rw [List.map_cons, DqL.ints q]
theorem dqL_ints : ∀ (ns : List Int), DqL K D (ns.map V.int) (ns.map PyData.int)
  | [] => .nil
  | n :: ns => .cons (.int n) (dqL_ints ns)
theorem DqL.bools : ∀ {vs : List V} {ns : List Bool}, DqL K D vs (ns.map PyData.bool) → vs = ns.map V.bl
  | _, [], h => by cases h; rfl
  | _, n :: ns, h => by
    cases h with
    | cons h q =>
      cases h
      rw [List.map_cons, DqL.bools q]
theorem DqL.strs : ∀ {vs : List V} {ns : List Str}, DqL K D vs (ns.map PyData.str) → vs = ns.map V.str
  | _, [], h => by cases h; rfl
  | _, n :: ns, h => by
    cases h with
    | cons h q =>
      cases h
      rw [List.map_cons, DqL.strs q]
end
theorem DqL.mono' {K : PySem.W.Frag} {D D' : Hp} (e : Same D D') {vs : List V} {ds : List PyData} (h : DqL K D vs ds) : DqL K D' vs ds := DqL.mono e ds vs h
theorem Dq.mono' {K : PySem.W.Frag} {D D' : Hp} (e : Same D D') {v : V} {d : PyData} (h : Dq K D v d) : Dq K D' v d := Dq.mono e d v h
theorem same_new {H : Hp} {p : Addr} {o : HO} (h : H p = none) : Same H (upd H p o) := fun b x e => by
  rw [upd_ne (ne_of_none e h)]
  exact e

/-! ### abstract states -/
abbrev Mem := List (List PyData)
inductive Slot where
  | un
  | dat (d : PyData)
  | mut (j : Nat)
  | scr (ns : List Int)
def VOk (K : PySem.W.Frag) (D : Hp) (as : List Addr) (v : V) : Slot → Prop
  | .un => True
  | .dat d => Dq K D v d
  | .mut j => ∃ a, as[j]? = some a ∧ v = .ref a
  | .scr ns => ∃ a, v = .ref a ∧ SqL K D a (ns.map V.int)
structure Fr0 where
  H : Hp
  D : Hp
  ext : List Addr
structure Rel (K : PySem.W.Frag) (F : Fr0) (ρ : List Slot) (μ : Mem) (as : List Addr) (σ : L2.St) (D H : Hp) : Prop where
  sub : Same D H
  sd : Same F.D D
  env : ∀ (i : Nat) (s : Slot), ρ[i]? = some s → s = .un ∨ ∃ v, σ[i]? = some (some v) ∧ VOk K D as v s
  len : as.length = μ.length
  mem : ∀ (j : Nat) (a : Addr) (ds : List PyData), as[j]? = some a → μ[j]? = some ds → ∃ xs, H a = some (.lst xs) ∧ DqL K D xs ds
  nd : as.Nodup
  out : ∀ a, a ∈ as → D a = none
  own : ∃ l, as = F.ext ++ l ∧ ∀ a, a ∈ l → F.H a = none
  frame : ∀ b o, F.H b = some o → b ∉ F.ext → H b = some o
  fresh : ∀ b o, D b = some o → (∃ u, F.D b = some u) ∨ F.H b = none
section
variable {K : PySem.W.Frag} {F : Fr0} {ρ ρ' : List Slot} {μ μ' : Mem} {as more : List Addr} {σ σ' : L2.St} {D D' H H' : Hp}
theorem VOk.mono (e : Same D D') {v : V} : ∀ {s : Slot}, VOk K D as v s → VOk K D' (as ++ more) v s
  | .un, _ => trivial
  | .dat d, h => Dq.mono e d v h
  | .mut j, ⟨a, h, q⟩ => ⟨a, by rw [List.getElem?_append_left (List.getElem?_eq_some_iff.mp h).1]; exact h, q⟩
  | .scr ns, ⟨a, h, q⟩ => ⟨a, h, e.seq q⟩
theorem VOk.mono0 (e : Same D D') {v : V} {s : Slot} (h : VOk K D as v s) : VOk K D' as v s := by
  have z := VOk.mono (more := []) e h
  rw [List.append_nil] at z
  exact z
theorem Rel.isLst (r : Rel K F ρ μ as σ D H) {a : Addr} (h : a ∈ as) : ∃ xs, H a = some (.lst xs) := by
  obtain ⟨j, hj, e⟩ := List.mem_iff_getElem.mp h
  obtain ⟨xs, q, _⟩ := r.mem j a (μ[j]'(by rw [← r.len]; exact hj)) (by rw [List.getElem?_eq_getElem hj, e]) (List.getElem?_eq_getElem (by rw [← r.len]; exact hj))
  exact ⟨xs, q⟩
theorem Rel.newF (r : Rel K F ρ μ as σ D H) {p : Addr} (h : H p = none) : F.H p = none := by
  cases q : F.H p with
  | none => rfl
  | some o =>
    by_cases hx : p ∈ F.ext
    · obtain ⟨l, e, _⟩ := r.own
      obtain ⟨xs, z⟩ := r.isLst (a := p) (by rw [e]; exact List.mem_append_left _ hx)
      rw [h] at z
      cases z
    · have z := r.frame p o q hx
      rw [h] at z
      cases z
theorem Rel.newA (r : Rel K F ρ μ as σ D H) {p : Addr} (h : H p = none) : p ∉ as := fun hm => by
  obtain ⟨xs, z⟩ := r.isLst hm
  rw [h] at z
  cases z
theorem none_sub {D H : Hp} (e : Same D H) {p : Addr} (h : H p = none) : D p = none := by
  cases q : D p with
  | none => rfl
  | some o =>
    rw [e p o q] at h
    cases h
/-- a new object of data -/
theorem Rel.dat (r : Rel K F ρ μ as σ D H) {p : Addr} {o : HO} (h : H p = none) : Rel K F ρ μ as σ (upd D p o) (upd H p o) where
  sub := fun b x e => by
    by_cases hb : b = p
    · subst hb
      rw [upd_same] at e ⊢
      exact e
    · rw [upd_ne hb] at e ⊢
      exact r.sub b x e
  sd := fun b x e => same_new (none_sub r.sub h) b x (r.sd b x e)
  env := fun i s e => (r.env i s e).imp id fun ⟨v, a, q⟩ => ⟨v, a, q.mono0 (same_new (none_sub r.sub h))⟩
  len := r.len
  mem := fun j a ds e1 e2 => by
    obtain ⟨xs, q, z⟩ := r.mem j a ds e1 e2
    exact ⟨xs, by rw [upd_ne (ne_of_none q h)]; exact q, z.mono' (same_new (none_sub r.sub h))⟩
  nd := r.nd
  out := fun a ha => by
    rw [upd_ne (show a ≠ p from fun e => r.newA h (by rw [← e]; exact ha))]
    exact r.out a ha
  own := r.own
  frame := fun b x e hb => by
    have z := r.frame b x e hb
    rw [upd_ne (ne_of_none z h)]
    exact z
  fresh := fun b x e => by
    by_cases hb : b = p
    · subst hb
      exact .inr (r.newF h)
    · rw [upd_ne hb] at e
      exact r.fresh b x e
/-- a new list of one's own -/
theorem Rel.mut (r : Rel K F ρ μ as σ D H) {p : Addr} {xs : List V} {ds : List PyData} (h : H p = none) (q : DqL K D xs ds) : Rel K F ρ (μ ++ [ds]) (as ++ [p]) σ D (upd H p (.lst xs)) where
  sub := fun b x e => by
    have z := r.sub b x e
    rw [upd_ne (ne_of_none z h)]
    exact z
  sd := r.sd
  env := fun i s e => (r.env i s e).imp id fun ⟨v, a, q⟩ => ⟨v, a, q.mono (Same.refl _)⟩
  len := by rw [List.length_append, List.length_append, r.len]; rfl
  mem := fun j a es e1 e2 => by
    have hl := r.len
    by_cases hj : j < as.length
    · rw [List.getElem?_append_left hj] at e1
      rw [List.getElem?_append_left (by omega)] at e2
      obtain ⟨ys, q1, z⟩ := r.mem j a es e1 e2
      exact ⟨ys, by rw [upd_ne (ne_of_none q1 h)]; exact q1, z⟩
    · have j0 : j = as.length := by
        have := (List.getElem?_eq_some_iff.mp e1).1
        rw [List.length_append, List.length_singleton] at this
        omega
      subst j0
      rw [List.getElem?_append_right (Nat.le_refl _), Nat.sub_self] at e1
      rw [hl, List.getElem?_append_right (Nat.le_refl _), Nat.sub_self] at e2
      have e3 : p = a := Option.some.inj e1
      have e4 : ds = es := Option.some.inj e2
      subst e3 e4
      exact ⟨xs, upd_same, q⟩
  nd := by
    rw [List.nodup_append]
    refine ⟨r.nd, by simp, fun a ha b hb e => ?_⟩
    rw [List.mem_singleton] at hb
    subst hb
    exact r.newA h (e ▸ ha)
  out := fun a ha => by
    rcases List.mem_append.mp ha with ha | ha
    · exact r.out a ha
    · rw [List.mem_singleton] at ha
      subst ha
      exact none_sub r.sub h
  own := by
    obtain ⟨l, e, f⟩ := r.own
    refine ⟨l ++ [p], by rw [e, List.append_assoc], fun a ha => ?_⟩
    rcases List.mem_append.mp ha with ha | ha
    · exact f a ha
    · rw [List.mem_singleton] at ha
      subst ha
      exact r.newF h
  frame := fun b x e hb => by
    have z := r.frame b x e hb
    rw [upd_ne (ne_of_none z h)]
    exact z
  fresh := r.fresh
/-- a list of one's own is written -/
theorem Rel.wr (r : Rel K F ρ μ as σ D H) {j : Nat} {a : Addr} {xs : List V} {ds : List PyData} (ha : as[j]? = some a) (q : DqL K D xs ds) : Rel K F ρ (μ.set j ds) as σ D (upd H a (.lst xs)) := by
  have am : a ∈ as := List.mem_of_getElem? ha
  obtain ⟨zs, hz⟩ := r.isLst am
  have aj : j < as.length := (List.getElem?_eq_some_iff.mp ha).1
  refine ⟨fun b x e => ?_, r.sd, r.env, by rw [List.length_set]; exact r.len, fun i b es e1 e2 => ?_, r.nd, r.out, r.own, fun b x e hb => ?_, r.fresh⟩
  · rw [upd_ne fun z => by subst z; rw [r.out b am] at e; cases e]
    exact r.sub b x e
  · by_cases hi : i = j
    · subst hi
      rw [ha] at e1
      cases e1
      rw [List.getElem?_set_self (by rw [← r.len]; exact aj)] at e2
      cases e2
      exact ⟨xs, upd_same, q⟩
    · rw [List.getElem?_set_ne (Ne.symm hi)] at e2
      obtain ⟨ys, q1, z⟩ := r.mem i b es e1 e2
      refine ⟨ys, ?_, z⟩
      rw [upd_ne fun z => hi (by
        subst z
        exact nd_ix r.nd e1 ha)]
      exact q1
  · have z := r.frame b x e hb
    by_cases hba : b = a
    · subst hba
      obtain ⟨l, e2, f⟩ := r.own
      rw [e2] at am
      rcases List.mem_append.mp am with k | k
      · exact absurd k hb
      · rw [f b k] at e
        cases e
    · rw [upd_ne hba]
      exact z
/-- the slots alone: weaker, other -/
theorem Rel.slots (r : Rel K F ρ μ as σ D H) (h : ∀ (i : Nat) (s : Slot), ρ'[i]? = some s → s = .un ∨ ∃ v, σ'[i]? = some (some v) ∧ VOk K D as v s) : Rel K F ρ' μ as σ' D H :=
  ⟨r.sub, r.sd, h, r.len, r.mem, r.nd, r.out, r.own, r.frame, r.fresh⟩
theorem Rel.set (r : Rel K F ρ μ as σ D H) {i : Nat} {v : V} {s : Slot} (hi : i < σ.length) (q : VOk K D as v s) : Rel K F (ρ.set i s) μ as (σ.set i (some v)) D H := r.slots fun k z e => by
  by_cases hk : k = i
  · subst hk
    have l : k < ρ.length := by
      have := (List.getElem?_eq_some_iff.mp e).1
      rw [List.length_set] at this
      exact this
    rw [List.getElem?_set_self l] at e
    cases e
    exact .inr ⟨v, List.getElem?_set_self hi, q⟩
  · rw [List.getElem?_set_ne (Ne.symm hk)] at e
    rw [List.getElem?_set_ne (Ne.symm hk)]
    exact r.env k z e
/-- one's own entry: nothing is told of who called -/
def Fr0.here (D H : Hp) (as : List Addr) : Fr0 := ⟨H, D, as⟩
theorem Rel.in (r : Rel K F ρ μ as σ D H) : Rel K (Fr0.here D H as) ρ μ as σ D H :=
  ⟨r.sub, Same.refl _, r.env, r.len, r.mem, r.nd, r.out, ⟨[], by simp [Fr0.here], fun _ h => by cases h⟩, fun _ _ e _ => e, fun b o e => .inl ⟨o, e⟩⟩
theorem Rel.back2 {ρ₂ : List Slot} {σ₂ : L2.St} (r : Rel K F ρ μ as σ D H) (k : Rel K (Fr0.here D H as) ρ₂ μ' (as ++ more) σ₂ D' H') : Rel K F ρ₂ μ' (as ++ more) σ₂ D' H' where
  sub := k.sub
  sd := r.sd.trans k.sd
  env := k.env
  len := k.len
  mem := k.mem
  nd := k.nd
  out := k.out
  own := by
    obtain ⟨l, e, f⟩ := r.own
    refine ⟨l ++ more, by rw [e, List.append_assoc], fun a ha => ?_⟩
    rcases List.mem_append.mp ha with ha | ha
    · exact f a ha
    · obtain ⟨m, e2, f2⟩ := k.own
      have e3 : m = more := (List.append_cancel_left (show as ++ more = as ++ m from e2)).symm
      subst e3
      have n1 : H a = none := f2 a ha
      exact r.newF n1
  frame := fun b o e hb => by
    have z := r.frame b o e hb
    refine k.frame b o z fun hm => ?_
    obtain ⟨l, e2, f⟩ := r.own
    have hm2 : b ∈ as := hm
    rw [e2] at hm2
    rcases List.mem_append.mp hm2 with q | q
    · exact hb q
    · rw [f b q] at e
      cases e
  fresh := fun b o e => by
    rcases k.fresh b o e with ⟨u, q⟩ | q
    · exact r.fresh b u q
    · exact .inr (r.newF q)
theorem Rel.back {ρ₂ : List Slot} {σ₂ : L2.St} (r : Rel K F ρ μ as σ D H) (k : Rel K (Fr0.here D H as) ρ₂ μ' (as ++ more) σ₂ D' H') : Rel K F ρ μ' (as ++ more) σ D' H' :=
  (r.back2 k).slots fun i s e => (r.env i s e).imp id fun ⟨v, a, q⟩ => ⟨v, a, q.mono k.sd⟩
/-- the lists of one's own only grow -/
theorem Rel.grown {ρ₂ : List Slot} {σ₂ : L2.St} {as' : List Addr} (k : Rel K (Fr0.here D H as) ρ₂ μ' as' σ₂ D' H') : ∃ l, as' = as ++ l := let ⟨l, e, _⟩ := k.own; ⟨l, e⟩
/-- an object beside all that is told -/
theorem Rel.side (r : Rel K F ρ μ as σ D H) {p : Addr} {o : HO} (h : F.H p = none) (ha : p ∉ as) (hd : D p = none) : Rel K F ρ μ as σ D (upd H p o) where
  sub := fun b x e => by
    rw [upd_ne fun z => by subst z; rw [hd] at e; cases e]
    exact r.sub b x e
  sd := r.sd
  env := r.env
  len := r.len
  mem := fun j a ds e1 e2 => by
    obtain ⟨xs, q, z⟩ := r.mem j a ds e1 e2
    exact ⟨xs, by rw [upd_ne fun z => ha (by subst z; exact List.mem_of_getElem? e1)]; exact q, z⟩
  nd := r.nd
  out := r.out
  own := r.own
  frame := fun b x e hb => by
    rw [upd_ne fun z => by subst z; rw [h] at e; cases e]
    exact r.frame b x e hb
  fresh := r.fresh
/-- it becomes data -/
theorem Rel.froz (r : Rel K F ρ μ as σ D H) {p : Addr} {o : HO} (h : F.H p = none) (ha : p ∉ as) (hd : D p = none) (ho : H p = some o) : Rel K F ρ μ as σ (upd D p o) H where
  sub := fun b x e => by
    by_cases hb : b = p
    · subst hb
      rw [upd_same] at e
      rw [ho]
      exact e
    · rw [upd_ne hb] at e
      exact r.sub b x e
  sd := fun b x e => same_new hd b x (r.sd b x e)
  env := fun i s e => (r.env i s e).imp id fun ⟨v, a, q⟩ => ⟨v, a, q.mono0 (same_new hd)⟩
  len := r.len
  mem := fun j a ds e1 e2 => by
    obtain ⟨xs, q, z⟩ := r.mem j a ds e1 e2
    exact ⟨xs, q, z.mono' (same_new hd)⟩
  nd := r.nd
  out := fun a hm => by
    rw [upd_ne (show a ≠ p from fun z => ha (by rw [← z]; exact hm))]
    exact r.out a hm
  own := r.own
  frame := r.frame
  fresh := fun b x e => by
    by_cases hb : b = p
    · subst hb
      exact .inr h
    · rw [upd_ne hb] at e
      exact r.fresh b x e
/-- what a list beside one's own keeps through it -/
theorem Rel.kept {b : Addr} {o : HO} {ρ₂ : List Slot} {σ₂ : L2.St} (k : Rel K (Fr0.here D H as) ρ₂ μ' (as ++ more) σ₂ D' H') (h : H b = some o) (ha : b ∉ as) (hd : D b = none) : H' b = some o ∧ b ∉ as ++ more ∧ D' b = none := by
  refine ⟨k.frame b o h ha, fun hm => ?_, ?_⟩
  · rcases List.mem_append.mp hm with q | q
    · exact ha q
    · obtain ⟨m, e2, f2⟩ := k.own
      have e3 : m = more := (List.append_cancel_left (show as ++ more = as ++ m from e2)).symm
      subst e3
      have n1 : H b = none := f2 b q
      rw [h] at n1
      cases n1
  · cases q : D' b with
    | none => rfl
    | some u =>
      rcases k.fresh b u q with ⟨u, z⟩ | z
      · have z2 : D b = some u := z
        rw [hd] at z2
        cases z2
      · have z2 : H b = none := z
        rw [h] at z2
        cases z2
end
end Gu
end
section
set_option Elab.async false
set_option linter.all false
set_option maxRecDepth 100000
set_option maxHeartbeats 1000000
namespace Gu
open PySem PySem.Spec PyProof.Rows L2
/-! ### what is wanted, by the state alone -/
def WE (X : Cx) (e : Expr) : TE := fun σ H Q => ∀ (pins : List (Addr × Obj)) (s : Shared), Inv X pins σ H s → wpAny (model X.prog X.w) X.A (eval e X.env) (EP X pins σ Q) X.xe s
def WT (X : Cx) (e : Expr) : TT := fun σ H Q => ∀ (pins : List (Addr × Obj)) (s : Shared), Inv X pins σ H s → wpAny (model X.prog X.w) X.A (isTrue e X.env (eval e X.env)) (TP X pins σ Q) X.xe s
def WW (X : Cx) (e : Expr) : TT := fun σ H Q => ∀ (whole : Sem Value) (pins : List (Addr × Obj)) (s : Shared), Inv X pins σ H s → wpAny (model X.prog X.w) X.A (isTrue e X.env whole) (TP X pins σ Q) X.xe s
def WA (X : Cx) (es : List Expr) : TA := fun σ H Q => ∀ (pos : Pos) (pins : List (Addr × Obj)) (s : Shared), Inv X pins σ H s → wpAny (model X.prog X.w) X.A (spliced (backTo pos (starEach es X.env))) (AP X pins σ Q) X.xe s
def WG (X : Cx) (tg : Expr) : TG := fun v σ H Q => ∀ (pins : List (Addr × Obj)) (s : Shared) (u : Value), Inv X pins σ H s → RelV v u →
  wpAny (model X.prog X.w) X.A (assign tg X.env u) (fun _ s' => ∃ σ' H', Inv X pins σ' H' s' ∧ Q σ' H') X.xe s
def WI (X : Cx) (tg it : Expr) : TI := fun σ H R => ∀ (pins : List (Addr × Obj)) (s : Shared), Inv X pins σ H s →
  wpAny (model X.prog X.w) X.A (eval it X.env) (fun v s1 => wpAny (model X.prog X.w) X.A (pyIter v) (PIE X pins σ tg R) X.xe s1) X.xe s
def WB (X : Cx) (st : List Stmt) : TS := fun D σ H => ∀ (pins : List (Addr × Obj)) (s : Shared), Inv X pins σ H s → wpAny (model X.prog X.w) X.A (execs st X.env) (SP X pins D) X.xe s
def WF (X : Cx) (ifs : List Expr) : TT := fun σ H Q => ∀ (pins : List (Addr × Obj)) (s : Shared), Inv X pins σ H s →
  wpAny (model X.prog X.w) X.A (forIn ifs true fun c r => if r = true then do let ok ← isTrue c X.env (eval c X.env); pure (ForInStep.yield ok) else pure (ForInStep.yield r)) (TP X pins σ Q) X.xe s
section
variable {X : Cx} {e a b c tg it : Expr} {es : List Expr} {st : List Stmt}
theorem peW : PE X e (WE X e) := ⟨fun pins s σ H Q I h => h pins s I⟩
theorem ptW : PT X e (WT X e) := ⟨fun pins s σ H Q I h => h pins s I⟩
theorem pwW : PW X e (WW X e) := ⟨fun wh pins s σ H Q I h => h wh pins s I⟩
theorem paW : PA X es (WA X es) := ⟨fun pos pins s σ H Q I h => h pos pins s I⟩
theorem pgW : PG X tg (WG X tg) := ⟨fun pins s σ H v u Q I r h => h pins s u I r⟩
theorem piW : PI X tg it (WI X tg it) := ⟨fun pins s σ H R I h => h pins s I⟩
theorem pbW : PSs X st (WB X st) := ⟨fun pins s σ H D I h => h pins s I⟩
theorem pfW : PTs X es (WF X es) := ⟨fun pins s σ H Q I h => h pins s I⟩
theorem WE.of {t : TE} {σ : L2.St} {H : Hp} {Q : VK} (h : PE X e t) (q : t σ H Q) : WE X e σ H Q := fun pins s I => h.run pins s σ H Q I q
theorem WT.of {t : TT} {σ : L2.St} {H : Hp} {Q : Bool → Hp → Prop} (h : PT X e t) (q : t σ H Q) : WT X e σ H Q := fun pins s I => h.run pins s σ H Q I q
theorem WW.of {t : TT} {σ : L2.St} {H : Hp} {Q : Bool → Hp → Prop} (h : PW X e t) (q : t σ H Q) : WW X e σ H Q := fun wh pins s I => h.run wh pins s σ H Q I q
theorem WA.of {t : TA} {σ : L2.St} {H : Hp} {Q : List V → Hp → Prop} (h : PA X es t) (q : t σ H Q) : WA X es σ H Q := fun pos pins s I => h.run pos pins s σ H Q I q
theorem WG.of {t : TG} {v : V} {σ : L2.St} {H : Hp} {Q : L2.St → Hp → Prop} (h : PG X tg t) (q : t v σ H Q) : WG X tg v σ H Q := fun pins s u I r => h.run pins s σ H v u Q I r q
theorem WI.of {t : TI} {σ : L2.St} {H : Hp} {R : It → Hp → Prop} (h : PI X tg it t) (q : t σ H R) : WI X tg it σ H R := fun pins s I => h.run pins s σ H R I q
theorem WB.of {t : TS} {σ : L2.St} {H : Hp} {D : Ends} (h : PSs X st t) (q : t D σ H) : WB X st D σ H := fun pins s I => h.run pins s σ H D I q
theorem WF.of {t : TT} {σ : L2.St} {H : Hp} {Q : Bool → Hp → Prop} (h : PTs X es t) (q : t σ H Q) : WF X es σ H Q := fun pins s I => h.run pins s σ H Q I q
end
/-! ### judgements -/
def Fin (X : Cx) (F : Fr0) (ρ : List Slot) (μ' : Mem) (as : List Addr) (σ : L2.St) (D : Hp) (Q : VK) (s : Slot) : Prop :=
  ∀ (v : V) (more : List Addr) (D' H' : Hp), Same D D' → Rel X.K F ρ μ' (as ++ more) σ D' H' → VOk X.K D' (as ++ more) v s → Q v H'
structure Ev (X : Cx) (ρ : List Slot) (μ : Mem) (e : Expr) (s : Slot) (μ' : Mem)  : Prop where
  run : ∀ (F : Fr0) (as : List Addr) (σ : L2.St) (D H : Hp) (Q : VK), Rel X.K F ρ μ as σ D H → Fin X F ρ μ' as σ D Q s → WE X e σ H Q
instance Ev.fn {X : Cx} {ρ : List Slot} {μ : Mem} {e : Expr} {s : Slot} {μ' : Mem} : CoeFun (Ev X ρ μ e s μ') (fun _ => ∀ (F : Fr0) (as : List Addr) (σ : L2.St) (D H : Hp) (Q : VK), Rel X.K F ρ μ as σ D H → Fin X F ρ μ' as σ D Q s → WE X e σ H Q) := ⟨fun h => h.run⟩
def FinT (X : Cx) (F : Fr0) (ρ : List Slot) (μ' : Mem) (as : List Addr) (σ : L2.St) (D : Hp) (Q : Bool → Hp → Prop) (b : Bool) : Prop :=
  ∀ (more : List Addr) (D' H' : Hp), Same D D' → Rel X.K F ρ μ' (as ++ more) σ D' H' → Q b H'
structure Evt (X : Cx) (ρ : List Slot) (μ : Mem) (e : Expr) (b : Bool) (μ' : Mem)  : Prop where
  run : ∀ (F : Fr0) (as : List Addr) (σ : L2.St) (D H : Hp) (Q : Bool → Hp → Prop), Rel X.K F ρ μ as σ D H → FinT X F ρ μ' as σ D Q b → WT X e σ H Q
instance Evt.fn {X : Cx} {ρ : List Slot} {μ : Mem} {e : Expr} {b : Bool} {μ' : Mem} : CoeFun (Evt X ρ μ e b μ') (fun _ => ∀ (F : Fr0) (as : List Addr) (σ : L2.St) (D H : Hp) (Q : Bool → Hp → Prop), Rel X.K F ρ μ as σ D H → FinT X F ρ μ' as σ D Q b → WT X e σ H Q) := ⟨fun h => h.run⟩
structure Evw (X : Cx) (ρ : List Slot) (μ : Mem) (e : Expr) (b : Bool) (μ' : Mem)  : Prop where
  run : ∀ (F : Fr0) (as : List Addr) (σ : L2.St) (D H : Hp) (Q : Bool → Hp → Prop), Rel X.K F ρ μ as σ D H → FinT X F ρ μ' as σ D Q b → WW X e σ H Q
instance Evw.fn {X : Cx} {ρ : List Slot} {μ : Mem} {e : Expr} {b : Bool} {μ' : Mem} : CoeFun (Evw X ρ μ e b μ') (fun _ => ∀ (F : Fr0) (as : List Addr) (σ : L2.St) (D H : Hp) (Q : Bool → Hp → Prop), Rel X.K F ρ μ as σ D H → FinT X F ρ μ' as σ D Q b → WW X e σ H Q) := ⟨fun h => h.run⟩
structure Evf (X : Cx) (ρ : List Slot) (μ : Mem) (ifs : List Expr) (b : Bool) (μ' : Mem)  : Prop where
  run : ∀ (F : Fr0) (as : List Addr) (σ : L2.St) (D H : Hp) (Q : Bool → Hp → Prop), Rel X.K F ρ μ as σ D H → FinT X F ρ μ' as σ D Q b → WF X ifs σ H Q
instance Evf.fn {X : Cx} {ρ : List Slot} {μ : Mem} {ifs : List Expr} {b : Bool} {μ' : Mem} : CoeFun (Evf X ρ μ ifs b μ') (fun _ => ∀ (F : Fr0) (as : List Addr) (σ : L2.St) (D H : Hp) (Q : Bool → Hp → Prop), Rel X.K F ρ μ as σ D H → FinT X F ρ μ' as σ D Q b → WF X ifs σ H Q) := ⟨fun h => h.run⟩
def VOks (K : PySem.W.Frag) (D : Hp) (as : List Addr) : List V → List Slot → Prop
  | [], [] => True
  | v :: vs, s :: ss => VOk K D as v s ∧ VOks K D as vs ss
  | _, _ => False
structure Eva (X : Cx) (ρ : List Slot) (μ : Mem) (es : List Expr) (ss : List Slot) (μ' : Mem)  : Prop where
  run : ∀ (F : Fr0) (as : List Addr) (σ : L2.St) (D H : Hp) (Q : List V → Hp → Prop), Rel X.K F ρ μ as σ D H →
    (∀ (vs : List V) (more : List Addr) (D' H' : Hp), Same D D' → Rel X.K F ρ μ' (as ++ more) σ D' H' → VOks X.K D' (as ++ more) vs ss → Q vs H') → WA X es σ H Q
instance Eva.fn {X : Cx} {ρ : List Slot} {μ : Mem} {es : List Expr} {ss : List Slot} {μ' : Mem} : CoeFun (Eva X ρ μ es ss μ') (fun _ => ∀ (F : Fr0) (as : List Addr) (σ : L2.St) (D H : Hp) (Q : List V → Hp → Prop), Rel X.K F ρ μ as σ D H →
    (∀ (vs : List V) (more : List Addr) (D' H' : Hp), Same D D' → Rel X.K F ρ μ' (as ++ more) σ D' H' → VOks X.K D' (as ++ more) vs ss → Q vs H') → WA X es σ H Q) := ⟨fun h => h.run⟩
/-- two values, one value, a list of values: what is made of them -/
def Op2 (X : Cx) (ρ : List Slot) (μ : Mem) (r : R2) (sa sb s : Slot) (μ' : Mem) : Prop :=
  ∀ (F : Fr0) (as : List Addr) (σ : L2.St) (D H : Hp) (Q : VK) (x y : V), Rel X.K F ρ μ as σ D H → VOk X.K D as x sa → VOk X.K D as y sb → Fin X F ρ μ' as σ D Q s → r x y H Q
def OpC (X : Cx) (ρ : List Slot) (μ : Mem) (r : List V → Hp → VK → Prop) (ss : List Slot) (s : Slot) (μ' : Mem) : Prop :=
  ∀ (F : Fr0) (as : List Addr) (σ : L2.St) (D H : Hp) (Q : VK) (xs : List V), Rel X.K F ρ μ as σ D H → VOks X.K D as xs ss → Fin X F ρ μ' as σ D Q s → r xs H Q
section
variable {X : Cx} {F : Fr0} {ρ : List Slot} {μ μ1 μ2 μ3 μ' : Mem} {as more : List Addr} {σ : L2.St} {D D' H H' : Hp} {Q : VK} {s sa sb : Slot} {e a b c : Expr} {es : List Expr} {pos : Pos}
theorem Rel.nil (r : Rel X.K F ρ μ as σ D H) : Rel X.K F ρ μ (as ++ []) σ D H := by
  rw [List.append_nil]
  exact r
theorem VOk.nil {v : V} (h : VOk X.K D as v s) : VOk X.K D (as ++ []) v s := by
  rw [List.append_nil]
  exact h
theorem VOks.mono (e : Same D D') : ∀ {vs : List V} {ss : List Slot}, VOks X.K D as vs ss → VOks X.K D' (as ++ more) vs ss
  | [], [], _ => trivial
  | _ :: _, _ :: _, ⟨h, k⟩ => ⟨h.mono e, VOks.mono e k⟩
  | [], _ :: _, h => h.elim
  | _ :: _, [], h => h.elim
/-- nothing has changed -/
theorem Fin.now (q : Fin X F ρ μ as σ D Q s) (r : Rel X.K F ρ μ as σ D H) {v : V} (k : VOk X.K D as v s) : Q v H := q v [] D H (Same.refl _) r.nil k.nil
theorem Fin.after (q : Fin X F ρ μ' as σ D Q s) (e : Same D D') : Fin X F ρ μ' (as ++ more) σ D' Q s := fun v m D2 H2 e2 r k => q v (more ++ m) D2 H2 (e.trans e2) (by rw [← List.append_assoc]; exact r) (by rw [← List.append_assoc]; exact k)
theorem FinT.after {Q : Bool → Hp → Prop} {k : Bool} (q : FinT X F ρ μ' as σ D Q k) (e : Same D D') : FinT X F ρ μ' (as ++ more) σ D' Q k := fun m D2 H2 e2 r => q (more ++ m) D2 H2 (e.trans e2) (by rw [← List.append_assoc]; exact r)
theorem FinT.now {Q : Bool → Hp → Prop} {k : Bool} (q : FinT X F ρ μ as σ D Q k) (r : Rel X.K F ρ μ as σ D H) : Q k H := q [] D H (Same.refl _) r.nil
/-- a new object of data -/
theorem Fin.tup (q : Fin X F ρ μ as σ D Q (.dat (.tuple ds))) (r : Rel X.K F ρ μ as σ D H) {xs : List V} (k : DqL X.K D xs ds) {p : Addr} (hp : H p = none) : Q (.ref p) (upd H p (.tup xs)) :=
  q _ [] (upd D p (.tup xs)) _ (same_new (none_sub r.sub hp)) (r.dat hp).nil (VOk.nil (.tup (.inl (.inl upd_same)) (k.mono' (same_new (none_sub r.sub hp)))))
theorem Fin.lst (q : Fin X F ρ μ as σ D Q (.dat (.list ds))) (r : Rel X.K F ρ μ as σ D H) {xs : List V} (k : DqL X.K D xs ds) {p : Addr} (hp : H p = none) : Q (.ref p) (upd H p (.lst xs)) :=
  q _ [] (upd D p (.lst xs)) _ (same_new (none_sub r.sub hp)) (r.dat hp).nil (VOk.nil (.lst upd_same (k.mono' (same_new (none_sub r.sub hp)))))
theorem Fin.mut (q : Fin X F ρ (μ ++ [ds]) as σ D Q (.mut μ.length)) (r : Rel X.K F ρ μ as σ D H) {xs : List V} (k : DqL X.K D xs ds) {p : Addr} (hp : H p = none) : Q (.ref p) (upd H p (.lst xs)) :=
  q _ [p] D _ (Same.refl _) (r.mut hp k) ⟨p, by rw [← r.len, List.getElem?_append_right (Nat.le_refl _), Nat.sub_self]; rfl, rfl⟩

/-! ### names, constants -/
theorem ev_var {i : Nat} {x : Str} (h : ρ[i]? = some s) (hs : s ≠ .un := by intro z; cases z) (hN : X.N[i]? = some x := by rfl) (hv : Vis X.env.scope x := by first | exact Or.inl rfl | exact Or.inr (Or.inl rfl) | exact Or.inr (Or.inr rfl))
    (hd : (x == ("__debug__" : Str)) = false := by decide) (hcd : (x == ("__classdict__" : Str)) = false := by decide) : Ev X ρ μ (.Name x pos) s μ := ⟨fun F as σ D H Q r q => by
  rcases r.env i s h with z | ⟨v, z, k⟩
  · exact absurd z hs
  · exact WE.of (pe_var hN hv hd hcd) ⟨v, z, q.now r k⟩⟩
theorem ev_cst {v : V} {d : PyData} (h : PE X e (tC v)) (k : ∀ D, Dq X.K D v d) : Ev X ρ μ e (.dat d) μ := ⟨fun F as σ D H Q r q => WE.of h (q.now r (k D))⟩
theorem ev_int {i : Int} {j : Nat} : Ev X ρ μ (.Constant (.int i) j pos) (.dat (.int i)) μ := ev_cst pe_int fun _ => .int i
theorem ev_bl {i : Bool} {j : Nat} : Ev X ρ μ (.Constant (.bool i) j pos) (.dat (.bool i)) μ := ev_cst pe_bl fun _ => .bl i
theorem ev_non {j : Nat} : Ev X ρ μ (.Constant .none j pos) (.dat .none) μ := ev_cst pe_non fun _ => .non
theorem ev_str {x : Str} {j : Nat} : Ev X ρ μ (.Constant (.str x) j pos) (.dat (.str x)) μ := ev_cst pe_str fun _ => .str x
/-- a constant of the module -/
theorem ev_con {x : Str} {u : Value} {v : V} {d : PyData} (hm : X.mg x = some u) (r : RelV v u) (k : ∀ D, Dq X.K D v d) (hg : Gl X x := by rfl) (hd : (x == ("__debug__" : Str)) = false := by decide) : Ev X ρ μ (.Name x pos) (.dat d) μ := ev_cst (pe_glob hg hm r hd) k
/-! ### operators -/
theorem ev_op {op : Operator} {r : R2} (ho : OpR X (binaryOp op) r) (ha : Ev X ρ μ a sa μ1) (hb : Ev X ρ μ1 b sb μ2) (hr : Op2 X ρ μ2 r sa sb s μ3) : Ev X ρ μ (.BinOp a op b pos) s μ3 := ⟨fun F as σ D H Q R q =>
  WE.of (pe_op ho peW peW) (ha F as σ D H _ R fun x m1 D1 H1 e1 R1 k1 => hb F _ σ D1 H1 _ R1 fun y m2 D2 H2 e2 R2 k2 => hr F _ σ D2 H2 Q x y R2 (k1.mono e2) k2 ((q.after e1).after e2))⟩
theorem ev_cmp {op : CmpOp} {r : R2} (ho : OpR X (compareOp op) r) (hm : behindInMarks op b = false) (ha : Ev X ρ μ a sa μ1) (hb : Ev X ρ μ1 b sb μ2) (hr : Op2 X ρ μ2 r sa sb s μ3) : Ev X ρ μ (.Compare a [op] [b] pos) s μ3 := ⟨fun F as σ D H Q R q =>
  WE.of (pe_cmpR ho peW peW hm) (ha F as σ D H _ R fun x m1 D1 H1 e1 R1 k1 => hb F _ σ D1 H1 _ R1 fun y m2 D2 H2 e2 R2 k2 => hr F _ σ D2 H2 Q x y R2 (k1.mono e2) k2 ((q.after e1).after e2))⟩
theorem evt_cmp {op : CmpOp} {r : R2} {k : Bool} (ho : OpR X (compareOp op) r) (hm : behindInMarks op b = false) (ha : Ev X ρ μ a sa μ1) (hb : Ev X ρ μ1 b sb μ2) (hr : Op2 X ρ μ2 r sa sb (.dat (.bool k)) μ3) : Evt X ρ μ (.Compare a [op] [b] pos) k μ3 := ⟨fun F as σ D H Q R q =>
  WT.of (pt_cmpR ho peW peW hm) (ha F as σ D H _ R fun x m1 D1 H1 e1 R1 k1 => hb F _ σ D1 H1 _ R1 fun y m2 D2 H2 e2 R2 k2 => hr F _ σ D2 H2 _ x y R2 (k1.mono e2) k2 fun v m D3 H3 e3 R3 k3 => by
    cases k3
    exact ⟨k, rfl, ((q.after e1).after e2) m D3 H3 e3 R3⟩)⟩
theorem ev_neg {i : Int} (ha : Ev X ρ μ a (.dat (.int i)) μ1) : Ev X ρ μ (.UnaryOp .USub a pos) (.dat (.int (-i))) μ1 := ⟨fun F as σ D H Q R q =>
  WE.of (pe_un un_neg peW) (ha F as σ D H _ R fun x m1 D1 H1 e1 R1 k1 => by
    cases k1
    exact ⟨i, rfl, q _ m1 D1 H1 e1 R1 (.int _)⟩)⟩
/-- ints -/
theorem o2_I0 {g : Int → Int → V} {i j : Int} {d : PyData} (hd : ∀ D, Dq X.K D (g i j) d) : Op2 X ρ μ (rI0 g) (.dat (.int i)) (.dat (.int j)) (.dat d) μ := fun F as σ D H Q x y R k1 k2 q => by
  cases k1
  cases k2
  exact ⟨i, j, rfl, rfl, q.now R (hd D)⟩
theorem o2_I {C : Int → Int → Prop} {g : Int → Int → V} {i j : Int} {d : PyData} (hc : C i j) (hd : ∀ D, Dq X.K D (g i j) d) : Op2 X ρ μ (rI C g) (.dat (.int i)) (.dat (.int j)) (.dat d) μ := fun F as σ D H Q x y R k1 k2 q => by
  cases k1
  cases k2
  exact ⟨i, j, rfl, rfl, hc, q.now R (hd D)⟩
variable {i j : Int}
theorem ev_add (ha : Ev X ρ μ a (.dat (.int i)) μ1) (hb : Ev X ρ μ1 b (.dat (.int j)) μ2) : Ev X ρ μ (.BinOp a .Add b pos) (.dat (.int (i + j))) μ2 := ev_op op_add ha hb (o2_I0 fun _ => .int _)
theorem ev_sub (ha : Ev X ρ μ a (.dat (.int i)) μ1) (hb : Ev X ρ μ1 b (.dat (.int j)) μ2) : Ev X ρ μ (.BinOp a .Sub b pos) (.dat (.int (i - j))) μ2 := ev_op op_sub ha hb (o2_I0 fun _ => .int _)
theorem ev_mul (hc : CMulX i j) (ha : Ev X ρ μ a (.dat (.int i)) μ1) (hb : Ev X ρ μ1 b (.dat (.int j)) μ2) : Ev X ρ μ (.BinOp a .Mult b pos) (.dat (.int (i * j))) μ2 := ev_op op_mulX ha hb (o2_I hc fun _ => .int _)
theorem ev_fdiv (hc : CDivW i j) (ha : Ev X ρ μ a (.dat (.int i)) μ1) (hb : Ev X ρ μ1 b (.dat (.int j)) μ2) : Ev X ρ μ (.BinOp a .FloorDiv b pos) (.dat (.int (i / j))) μ2 := ev_op op_fdivW ha hb (o2_I hc fun _ => .int _)
theorem ev_mod (hc : 0 < j) (ha : Ev X ρ μ a (.dat (.int i)) μ1) (hb : Ev X ρ μ1 b (.dat (.int j)) μ2) : Ev X ρ μ (.BinOp a .Mod b pos) (.dat (.int (i % j))) μ2 := ev_op op_mod ha hb (o2_I hc fun _ => .int _)
theorem ev_pow (hc : CPow i j) (ha : Ev X ρ μ a (.dat (.int i)) μ1) (hb : Ev X ρ μ1 b (.dat (.int j)) μ2) : Ev X ρ μ (.BinOp a .Pow b pos) (.dat (.int (i ^ j.toNat))) μ2 := ev_op op_pow ha hb (o2_I hc fun _ => .int _)
theorem ev_shl (hc : CPow i j) (ha : Ev X ρ μ a (.dat (.int i)) μ1) (hb : Ev X ρ μ1 b (.dat (.int j)) μ2) : Ev X ρ μ (.BinOp a .LShift b pos) (.dat (.int (i * 2 ^ j.toNat))) μ2 := ev_op op_shl ha hb (o2_I hc fun _ => .int _)
theorem ev_shr (hc : 0 ≤ j) (ha : Ev X ρ μ a (.dat (.int i)) μ1) (hb : Ev X ρ μ1 b (.dat (.int j)) μ2) : Ev X ρ μ (.BinOp a .RShift b pos) (.dat (.int (i / 2 ^ j.toNat))) μ2 := ev_op op_shr ha hb (o2_I hc fun _ => .int _)
/-- comparisons of ints, as values, as tests -/
theorem ev_lt (ha : Ev X ρ μ a (.dat (.int i)) μ1) (hb : Ev X ρ μ1 b (.dat (.int j)) μ2) : Ev X ρ μ (.Compare a [.Lt] [b] pos) (.dat (.bool (decide (i < j)))) μ2 := ev_cmp op_lt (nomark _) ha hb (o2_I0 fun _ => .bl _)
theorem ev_le (ha : Ev X ρ μ a (.dat (.int i)) μ1) (hb : Ev X ρ μ1 b (.dat (.int j)) μ2) : Ev X ρ μ (.Compare a [.LtE] [b] pos) (.dat (.bool (decide (i ≤ j)))) μ2 := ev_cmp op_le (nomark _) ha hb (o2_I0 fun _ => .bl _)
theorem ev_gt (ha : Ev X ρ μ a (.dat (.int i)) μ1) (hb : Ev X ρ μ1 b (.dat (.int j)) μ2) : Ev X ρ μ (.Compare a [.Gt] [b] pos) (.dat (.bool (decide (j < i)))) μ2 := ev_cmp op_gt (nomark _) ha hb (o2_I0 fun _ => .bl _)
theorem evt_lt (ha : Ev X ρ μ a (.dat (.int i)) μ1) (hb : Ev X ρ μ1 b (.dat (.int j)) μ2) : Evt X ρ μ (.Compare a [.Lt] [b] pos) (decide (i < j)) μ2 := evt_cmp op_lt (nomark _) ha hb (o2_I0 fun _ => .bl _)
theorem evt_gt (ha : Ev X ρ μ a (.dat (.int i)) μ1) (hb : Ev X ρ μ1 b (.dat (.int j)) μ2) : Evt X ρ μ (.Compare a [.Gt] [b] pos) (decide (j < i)) μ2 := evt_cmp op_gt (nomark _) ha hb (o2_I0 fun _ => .bl _)
theorem evt_ge (ha : Ev X ρ μ a (.dat (.int i)) μ1) (hb : Ev X ρ μ1 b (.dat (.int j)) μ2) : Evt X ρ μ (.Compare a [.GtE] [b] pos) (decide (j ≤ i)) μ2 := evt_cmp op_ge (nomark _) ha hb (o2_I0 fun _ => .bl _)
theorem o2_eqI : Op2 X ρ μ rEq (.dat (.int i)) (.dat (.int j)) (.dat (.bool (decide (i = j)))) μ := fun F as σ D H Q x y R k1 k2 q => by
  cases k1
  cases k2
  refine ⟨rfl, ?_⟩
  have z : decide (V.int i = V.int j) = decide (i = j) := by
    rw [Bool.eq_iff_iff]
    simp
  rw [z]
  exact q.now R (.bl _)
theorem o2_neI : Op2 X ρ μ rNe (.dat (.int i)) (.dat (.int j)) (.dat (.bool (!decide (i = j)))) μ := fun F as σ D H Q x y R k1 k2 q => by
  cases k1
  cases k2
  refine ⟨rfl, ?_⟩
  have z : decide (V.int i = V.int j) = decide (i = j) := by
    rw [Bool.eq_iff_iff]
    simp
  rw [z]
  exact q.now R (.bl _)
theorem ev_eq (ha : Ev X ρ μ a (.dat (.int i)) μ1) (hb : Ev X ρ μ1 b (.dat (.int j)) μ2) : Ev X ρ μ (.Compare a [.Eq] [b] pos) (.dat (.bool (decide (i = j)))) μ2 := ev_cmp op_eq (nomark _) ha hb o2_eqI
theorem ev_ne (ha : Ev X ρ μ a (.dat (.int i)) μ1) (hb : Ev X ρ μ1 b (.dat (.int j)) μ2) : Ev X ρ μ (.Compare a [.NotEq] [b] pos) (.dat (.bool (!decide (i = j)))) μ2 := ev_cmp op_ne (nomark _) ha hb o2_neI
theorem evt_eq (ha : Ev X ρ μ a (.dat (.int i)) μ1) (hb : Ev X ρ μ1 b (.dat (.int j)) μ2) : Evt X ρ μ (.Compare a [.Eq] [b] pos) (decide (i = j)) μ2 := evt_cmp op_eq (nomark _) ha hb o2_eqI
theorem evt_ne (ha : Ev X ρ μ a (.dat (.int i)) μ1) (hb : Ev X ρ μ1 b (.dat (.int j)) μ2) : Evt X ρ μ (.Compare a [.NotEq] [b] pos) (!decide (i = j)) μ2 := evt_cmp op_ne (nomark _) ha hb o2_neI
/-- texts -/
theorem o2_eqS {x y : Str} : Op2 X ρ μ rEq (.dat (.str x)) (.dat (.str y)) (.dat (.bool (decide (x = y)))) μ := fun F as σ D H Q u v R k1 k2 q => by
  cases k1
  cases k2
  refine ⟨rfl, ?_⟩
  have z : decide (V.str x = V.str y) = decide (x = y) := by
    rw [Bool.eq_iff_iff]
    simp
  rw [z]
  exact q.now R (.bl _)
theorem o2_neS {x y : Str} : Op2 X ρ μ rNe (.dat (.str x)) (.dat (.str y)) (.dat (.bool (!decide (x = y)))) μ := fun F as σ D H Q u v R k1 k2 q => by
  cases k1
  cases k2
  refine ⟨rfl, ?_⟩
  have z : decide (V.str x = V.str y) = decide (x = y) := by
    rw [Bool.eq_iff_iff]
    simp
  rw [z]
  exact q.now R (.bl _)
theorem evt_eqS {x y : Str} (ha : Ev X ρ μ a (.dat (.str x)) μ1) (hb : Ev X ρ μ1 b (.dat (.str y)) μ2) : Evt X ρ μ (.Compare a [.Eq] [b] pos) (decide (x = y)) μ2 := evt_cmp op_eq (nomark _) ha hb o2_eqS
theorem evt_neS {x y : Str} (ha : Ev X ρ μ a (.dat (.str x)) μ1) (hb : Ev X ρ μ1 b (.dat (.str y)) μ2) : Evt X ρ μ (.Compare a [.NotEq] [b] pos) (!decide (x = y)) μ2 := evt_cmp op_ne (nomark _) ha hb o2_neS
/-- data of any depth -/
theorem o2_eqD {d d' : PyData} (h1 : SeqAt.shaped d = true) (h2 : SeqAt.shaped d' = true) : Op2 X ρ μ (rEqD X.K) (.dat d) (.dat d') (.dat (.bool (PyData.eqv d d'))) μ := fun F as σ D H Q x y R k1 k2 q =>
  ⟨d, d', Dq.dp _ _ (Dq.mono' R.sub k1), Dq.dp _ _ (Dq.mono' R.sub k2), h1, h2, q.now R (.bl _)⟩
theorem ev_eqD {d d' : PyData} (hu : X.A.units + 64 < cLine) (h1 : SeqAt.shaped d = true) (h2 : SeqAt.shaped d' = true) (ha : Ev X ρ μ a (.dat d) μ1) (hb : Ev X ρ μ1 b (.dat d') μ2) :
    Ev X ρ μ (.Compare a [.Eq] [b] pos) (.dat (.bool (PyData.eqv d d'))) μ2 := ev_cmp (op_eqD hu) (nomark _) ha hb (o2_eqD h1 h2)
theorem evt_eqD {d d' : PyData} (hu : X.A.units + 64 < cLine) (h1 : SeqAt.shaped d = true) (h2 : SeqAt.shaped d' = true) (ha : Ev X ρ μ a (.dat d) μ1) (hb : Ev X ρ μ1 b (.dat d') μ2) :
    Evt X ρ μ (.Compare a [.Eq] [b] pos) (PyData.eqv d d') μ2 := evt_cmp (op_eqD hu) (nomark _) ha hb (o2_eqD h1 h2)
/-- is, is not: None, bools -/
def isNon : PyData → Bool
  | .none => true
  | _ => false
theorem dq_non {K : PySem.W.Frag} {D : Hp} {v : V} {d : PyData} (h : Dq K D v d) : decide (v = .non) = isNon d := by
  cases h <;> first | rfl | exact decide_eq_false (fun z => by cases z)
theorem o2_isN {d : PyData} : Op2 X ρ μ (fun x y H Q => y = .non ∧ Q (.bl (decide (x = .non))) H) (.dat d) (.dat .none) (.dat (.bool (isNon d))) μ := fun F as σ D H Q x y R k1 k2 q => by
  cases k2
  refine ⟨rfl, ?_⟩
  rw [dq_non k1]
  exact q.now R (.bl _)
theorem ev_isN {d : PyData} (ha : Ev X ρ μ a (.dat d) μ1) (hb : Ev X ρ μ1 b (.dat .none) μ2) : Ev X ρ μ (.Compare a [.Is] [b] pos) (.dat (.bool (isNon d))) μ2 := ev_cmp op_isN (nomark _) ha hb o2_isN
theorem evt_isN {d : PyData} (ha : Ev X ρ μ a (.dat d) μ1) (hb : Ev X ρ μ1 b (.dat .none) μ2) : Evt X ρ μ (.Compare a [.Is] [b] pos) (isNon d) μ2 := evt_cmp op_isN (nomark _) ha hb o2_isN
variable {k l : Bool}
theorem o2_isB : Op2 X ρ μ rIsB (.dat (.bool k)) (.dat (.bool l)) (.dat (.bool (decide (k = l)))) μ := fun F as σ D H Q x y R k1 k2 q => by
  cases k1
  cases k2
  exact ⟨k, l, rfl, rfl, q.now R (.bl _)⟩
theorem o2_notB : Op2 X ρ μ rNotB (.dat (.bool k)) (.dat (.bool l)) (.dat (.bool (!decide (k = l)))) μ := fun F as σ D H Q x y R k1 k2 q => by
  cases k1
  cases k2
  exact ⟨k, l, rfl, rfl, q.now R (.bl _)⟩
theorem ev_isB (ha : Ev X ρ μ a (.dat (.bool k)) μ1) (hb : Ev X ρ μ1 b (.dat (.bool l)) μ2) : Ev X ρ μ (.Compare a [.Is] [b] pos) (.dat (.bool (decide (k = l)))) μ2 := ev_cmp op_isBl (nomark _) ha hb o2_isB
theorem evt_notB (ha : Ev X ρ μ a (.dat (.bool k)) μ1) (hb : Ev X ρ μ1 b (.dat (.bool l)) μ2) : Evt X ρ μ (.Compare a [.IsNot] [b] pos) (!decide (k = l)) μ2 := evt_cmp op_notBl (nomark _) ha hb o2_notB
/-! ### tests -/
theorem evt_val (h : Ev X ρ μ e (.dat (.bool k)) μ') (he : ∀ whole, isTrue e X.env whole = (do let v ← whole; standAt e.pos; holding [v] (truthy v)) := by intro _; rfl) : Evt X ρ μ e k μ' := ⟨fun F as σ D H Q R q =>
  WT.of (pt_val peW he) (h F as σ D H _ R fun v m D' H' e1 R1 k1 => by
    cases k1
    exact ⟨k, rfl, q m D' H' e1 R1⟩)⟩
theorem evt_is {l : Bool} (h : Evt X ρ μ e k μ') (z : k = l) : Evt X ρ μ e l μ' := z ▸ h
theorem ev_is {s' : Slot} (h : Ev X ρ μ e s μ') (z : s = s') : Ev X ρ μ e s' μ' := z ▸ h
theorem evt_not (h : Evt X ρ μ a k μ') : Evt X ρ μ (.UnaryOp .Not a pos) (!k) μ' := ⟨fun F as σ D H Q R q =>
  WT.of (pt_not ptW) (h F as σ D H _ R fun m D' H' e1 R1 => q m D' H' e1 R1)⟩
theorem evt_of (h : Evw X ρ μ e k μ') : Evt X ρ μ e k μ' := ⟨fun F as σ D H Q R q => WT.of (PW.pt pwW) (h F as σ D H Q R q)⟩
variable {rest : List Expr}
theorem evw_and (ha : Evt X ρ μ a k μ1) (ht : k = true → Evw X ρ μ1 (.BoolOp .And (b :: rest) pos) l μ2) (hf : k = false → l = false ∧ μ2 = μ1) : Evw X ρ μ (.BoolOp .And (a :: b :: rest) pos) l μ2 := ⟨fun F as σ D H Q R q =>
  WW.of (pw_and ptW pwW) (ha F as σ D H _ R fun m D1 H1 e1 R1 => by
    cases k with
    | true => exact ht rfl F _ σ D1 H1 Q R1 (q.after e1)
    | false =>
      obtain ⟨rfl, rfl⟩ := hf rfl
      exact q m D1 H1 e1 R1)⟩
theorem evw_or (ha : Evt X ρ μ a k μ1) (hf : k = false → Evw X ρ μ1 (.BoolOp .Or (b :: rest) pos) l μ2) (ht : k = true → l = true ∧ μ2 = μ1) : Evw X ρ μ (.BoolOp .Or (a :: b :: rest) pos) l μ2 := ⟨fun F as σ D H Q R q =>
  WW.of (pw_or ptW pwW) (ha F as σ D H _ R fun m D1 H1 e1 R1 => by
    cases k with
    | false => exact hf rfl F _ σ D1 H1 Q R1 (q.after e1)
    | true =>
      obtain ⟨rfl, rfl⟩ := ht rfl
      exact q m D1 H1 e1 R1)⟩
theorem evw_and1 (h : Evt X ρ μ a k μ') : Evw X ρ μ (.BoolOp .And [a] pos) k μ' := ⟨fun F as σ D H Q R q => WW.of (pw_and1 ptW) (h F as σ D H Q R q)⟩
theorem evw_or1 (h : Evt X ρ μ a k μ') : Evw X ρ μ (.BoolOp .Or [a] pos) k μ' := ⟨fun F as σ D H Q R q => WW.of (pw_or1 ptW) (h F as σ D H Q R q)⟩
/-- pure ones -/
theorem evw_and' (ha : Evt X ρ μ a k μ) (ht : k = true → Evw X ρ μ (.BoolOp .And (b :: rest) pos) l μ) : Evw X ρ μ (.BoolOp .And (a :: b :: rest) pos) (k && l) μ := by
  cases k with
  | true => exact evw_and ha (fun _ => ht rfl) fun z => by cases z
  | false => exact evw_and ha (fun z => by cases z) fun _ => ⟨rfl, rfl⟩
theorem evw_or' (ha : Evt X ρ μ a k μ) (hf : k = false → Evw X ρ μ (.BoolOp .Or (b :: rest) pos) l μ) : Evw X ρ μ (.BoolOp .Or (a :: b :: rest) pos) (k || l) μ := by
  cases k with
  | false => exact evw_or ha (fun _ => hf rfl) fun z => by cases z
  | true => exact evw_or ha (fun z => by cases z) fun _ => ⟨rfl, rfl⟩
/-- as values -/
theorem ev_one {op : BoolOp} (h : Ev X ρ μ a s μ') : Ev X ρ μ (.BoolOp op [a] pos) s μ' := ⟨fun F as σ D H Q R q => WE.of (pe_one peW) (h F as σ D H Q R q)⟩
theorem ev_and' (ha : Ev X ρ μ a (.dat (.bool k)) μ) (ht : k = true → Ev X ρ μ (.BoolOp .And (b :: rest) pos) (.dat (.bool l)) μ) : Ev X ρ μ (.BoolOp .And (a :: b :: rest) pos) (.dat (.bool (k && l))) μ := ⟨fun F as σ D H Q R q =>
  WE.of (pe_and peW peW) (ha F as σ D H _ R fun v m D1 H1 e1 R1 k1 => by
    cases k1
    refine ⟨k, rfl, ?_⟩
    cases k with
    | true => exact ht rfl F _ σ D1 H1 Q R1 (q.after e1)
    | false => exact q _ m D1 H1 e1 R1 (.bl _))⟩
theorem ev_not (ha : Ev X ρ μ a (.dat (.bool k)) μ') : Ev X ρ μ (.UnaryOp .Not a pos) (.dat (.bool (!k))) μ' := ⟨fun F as σ D H Q R q =>
  WE.of (pe_not peW) (ha F as σ D H _ R fun v m D1 H1 e1 R1 k1 => by
    cases k1
    exact ⟨k, rfl, q _ m D1 H1 e1 R1 (.bl _)⟩)⟩
theorem ev_if (hc : Evt X ρ μ c k μ1) (ha : k = true → Ev X ρ μ1 a s μ2) (hb : k = false → Ev X ρ μ1 b s μ2) : Ev X ρ μ (.IfExp c a b pos) s μ2 := ⟨fun F as σ D H Q R q =>
  WE.of (pe_ifExp ptW peW peW) (hc F as σ D H _ R fun m D1 H1 e1 R1 => by
    cases k with
    | true => exact ha rfl F _ σ D1 H1 Q R1 (q.after e1)
    | false => exact hb rfl F _ σ D1 H1 Q R1 (q.after e1))⟩
end
end Gu
end
section
set_option Elab.async false
set_option linter.all false
set_option maxRecDepth 100000
set_option maxHeartbeats 1000000
namespace Gu
open PySem PySem.Spec PyProof.Rows L2
/-! ### lists of expressions -/
abbrev Evd (X : Cx) (ρ : List Slot) (μ : Mem) (es : List Expr) (ds : List PyData) (μ' : Mem) : Prop := Eva X ρ μ es (ds.map Slot.dat) μ'
def small (n : Nat) : Prop := n ≤ 100000
theorem small.line {n : Nat} (h : small n) : n ≤ sizeLine := Nat.le_trans h (by decide)
theorem small.lt {n : Nat} (h : small n) : n < sizeLine := Nat.lt_of_le_of_lt h (by decide)
section
variable {X : Cx} {F : Fr0} {ρ : List Slot} {μ μ1 μ2 μ3 μ' : Mem} {as more : List Addr} {σ : L2.St} {D D' H H' : Hp} {Q : VK} {s sa sb : Slot} {e a b c o : Expr} {es : List Expr} {pos p apos : Pos} {d da db : PyData} {ds es' : List PyData} {ss : List Slot}
theorem voks_dq {K : PySem.W.Frag} : ∀ {vs : List V} {ds : List PyData}, VOks K D as vs (ds.map Slot.dat) → DqL K D vs ds
  | [], [], _ => .nil
  | v :: vs, d :: ds, ⟨h, k⟩ => .cons h (voks_dq k)
  | [], _ :: _, h => h.elim
  | _ :: _, [], h => h.elim
theorem eva_nil : Eva X ρ μ [] [] μ := ⟨fun F as σ D H Q R q => WA.of pa_nil (q [] [] D H (Same.refl _) R.nil trivial)⟩
theorem eva_cons (ha : Ev X ρ μ e s μ1) (hr : Eva X ρ μ1 es ss μ2) (hs : starEach (e :: es) X.env = (false, eval e X.env) :: starEach es X.env := by rfl) : Eva X ρ μ (e :: es) (s :: ss) μ2 := ⟨fun F as σ D H Q R q =>
  WA.of (pa_cons peW paW hs) (ha F as σ D H _ R fun v m D1 H1 e1 R1 k1 => hr F _ σ D1 H1 _ R1 fun vs m2 D2 H2 e2 R2 k2 =>
    q (v :: vs) (m ++ m2) D2 H2 (e1.trans e2) (by rw [← List.append_assoc]; exact R2) (by rw [← List.append_assoc]; exact ⟨k1.mono e2, k2⟩))⟩
theorem evd_nil : Evd X ρ μ [] [] μ := eva_nil
theorem evd_cons (ha : Ev X ρ μ e (.dat d) μ1) (hr : Evd X ρ μ1 es ds μ2) (hs : starEach (e :: es) X.env = (false, eval e X.env) :: starEach es X.env := by rfl) : Evd X ρ μ (e :: es) (d :: ds) μ2 := eva_cons ha hr hs
/-! ### displays -/
theorem ev_tup {x1 : Nat} (h : Evd X ρ μ es ds μ') (hl : small ds.length := by exact Nat.le_of_ble_eq_true rfl) : Ev X ρ μ (.Tuple es x1 pos) (.dat (.tuple ds)) μ' := ⟨fun F as σ D H Q R q =>
  WE.of (pe_tup paW) (h F as σ D H _ R fun vs m D1 H1 e1 R1 k1 => by
    have k := voks_dq k1
    exact ⟨by rw [k.len]; exact hl.line, fun p hp => (q.after e1).tup R1 k hp⟩)⟩
theorem ev_lst (h : Evd X ρ μ es ds μ') (hl : small ds.length := by exact Nat.le_of_ble_eq_true rfl) : Ev X ρ μ (.List es pos) (.dat (.list ds)) μ' := ⟨fun F as σ D H Q R q =>
  WE.of (pe_lst paW) (h F as σ D H _ R fun vs m D1 H1 e1 R1 k1 => by
    have k := voks_dq k1
    exact ⟨by rw [k.len]; exact hl.line, fun p hp => (q.after e1).lst R1 k hp⟩)⟩
theorem ev_lstM (h : Evd X ρ μ es ds μ') (hl : small ds.length := by exact Nat.le_of_ble_eq_true rfl) : Ev X ρ μ (.List es pos) (.mut μ'.length) (μ' ++ [ds]) := ⟨fun F as σ D H Q R q =>
  WE.of (pe_lst paW) (h F as σ D H _ R fun vs m D1 H1 e1 R1 k1 => by
    have k := voks_dq k1
    exact ⟨by rw [k.len]; exact hl.line, fun p hp => (q.after e1).mut R1 k hp⟩)⟩
/-! ### sequences that are read -/
def SeqsL (μ : Mem) (s : Slot) (ds : List PyData) : Prop := s = .dat (.list ds) ∨ (∃ j, s = .mut j ∧ μ[j]? = some ds) ∨ ∃ ns, s = .scr ns ∧ ds = ns.map PyData.int
def Seqs (μ : Mem) (s : Slot) (ds : List PyData) : Prop := s = .dat (.tuple ds) ∨ SeqsL μ s ds
theorem sl_l : SeqsL μ (.dat (.list ds)) ds := .inl rfl
theorem sl_m {j : Nat} (h : μ[j]? = some ds) : SeqsL μ (.mut j) ds := .inr (.inl ⟨j, rfl, h⟩)
theorem sl_s {ns : List Int} : SeqsL μ (.scr ns) (ns.map PyData.int) := .inr (.inr ⟨ns, rfl, rfl⟩)
theorem sq_l : Seqs μ (.dat (.list ds)) ds := .inr sl_l
theorem sq_t : Seqs μ (.dat (.tuple ds)) ds := .inl rfl
theorem sq_m {j : Nat} (h : μ[j]? = some ds) : Seqs μ (.mut j) ds := .inr (sl_m h)
theorem sq_s {ns : List Int} : Seqs μ (.scr ns) (ns.map PyData.int) := .inr sl_s
theorem SeqsL.val (h : SeqsL μ s ds) (R : Rel X.K F ρ μ as σ D H) {v : V} (k : VOk X.K D as v s) : ∃ a xs, v = .ref a ∧ SqL X.K H a xs ∧ DqL X.K D xs ds := by
  rcases h with rfl | ⟨j, rfl, hj⟩ | ⟨ns, rfl, rfl⟩
  · cases k with
    | lst h q => exact ⟨_, _, rfl, .inl (.inl (R.sub _ _ h)), q⟩
  · obtain ⟨a, ha, rfl⟩ := k
    obtain ⟨xs, h1, h2⟩ := R.mem j a ds ha hj
    exact ⟨a, xs, rfl, .inl (.inl h1), h2⟩
  · obtain ⟨a, rfl, h⟩ := k
    exact ⟨a, _, rfl, R.sub.seq h, dqL_ints ns⟩
theorem Seqs.val (h : Seqs μ s ds) (R : Rel X.K F ρ μ as σ D H) {v : V} (k : VOk X.K D as v s) : ∃ a xs, v = .ref a ∧ (SqL X.K H a xs ∨ SqT X.K H a xs) ∧ DqL X.K D xs ds := by
  rcases h with rfl | h
  · cases k with
    | tup h q => exact ⟨_, _, rfl, .inr (sqT_mono R.sub h), q⟩
  · obtain ⟨a, xs, e, h1, h2⟩ := h.val R k
    exact ⟨a, xs, e, .inl h1, h2⟩
theorem DqL.atI {K : PySem.W.Frag} {xs : List V} (h : DqL K D xs ds) {i : Int} (h0 : 0 ≤ i) (hd : ds[i.toNat]? = some d) : ∃ v, L2.atI xs i = some v ∧ Dq K D v d := by
  obtain ⟨v, e, q⟩ := h.at hd
  refine ⟨v, ?_, q⟩
  have z := atI_nat e
  rwa [Int.toNat_of_nonneg h0] at z
theorem o2_ix {i : Int} (h : Seqs μ s ds) (h0 : 0 ≤ i) (hd : ds[i.toNat]? = some d) : Op2 X ρ μ (rIx X.K) s (.dat (.int i)) (.dat d) μ := fun F as σ D H Q x y R k1 k2 q => by
  cases k2
  obtain ⟨a, xs, rfl, hs, hq⟩ := h.val R k1
  obtain ⟨v, e, hv⟩ := hq.atI h0 hd
  rcases hs with hs | hs
  · exact .inl ⟨a, xs, i, v, rfl, rfl, hs, e, q.now R hv⟩
  · exact .inr (.inl ⟨a, xs, i, v, rfl, rfl, hs, e, q.now R hv⟩)
theorem ev_ixS {i : Int} (h : Seqs μ2 s ds) (ha : Ev X ρ μ a s μ1) (hb : Ev X ρ μ1 b (.dat (.int i)) μ2) (hd : ds[i.toNat]? = some d := by rfl) (h0 : 0 ≤ i := by decide) (hp : PlainIx b := by intro _ _; rfl) : Ev X ρ μ (.Subscript a b pos) (.dat d) μ2 := ⟨fun F as σ D H Q R q =>
  WE.of (pe_ix ix_seq peW peW hp) (ha F as σ D H _ R fun x m1 D1 H1 e1 R1 k1 => hb F _ σ D1 H1 _ R1 fun y m2 D2 H2 e2 R2 k2 => o2_ix h h0 hd F _ σ D2 H2 Q x y R2 (k1.mono e2) k2 ((q.after e1).after e2))⟩
theorem ev_ixT {i : Int} (ha : Ev X ρ μ a (.dat (.tuple ds)) μ1) (hb : Ev X ρ μ1 b (.dat (.int i)) μ2) (hd : ds[i.toNat]? = some d := by rfl) (h0 : 0 ≤ i := by decide) (hp : PlainIx b := by intro _ _; rfl) : Ev X ρ μ (.Subscript a b pos) (.dat d) μ2 := ev_ixS sq_t ha hb hd h0 hp
theorem ev_ixL {i : Int} (ha : Ev X ρ μ a (.dat (.list ds)) μ1) (hb : Ev X ρ μ1 b (.dat (.int i)) μ2) (hd : ds[i.toNat]? = some d := by rfl) (h0 : 0 ≤ i := by decide) (hp : PlainIx b := by intro _ _; rfl) : Ev X ρ μ (.Subscript a b pos) (.dat d) μ2 := ev_ixS sq_l ha hb hd h0 hp
/-! ### built-in functions -/
theorem ev_callB {x : Str} {id : String} {r : List V → Hp → VK → Prop} (hc : CallR X (.builtin id) r) (hm : X.mg x = none) (hv : bootBuiltins x = some (.builtin id)) (ha : Eva X ρ μ (e :: es) ss μ1) (hr : OpC X ρ μ1 r ss s μ2) (hg : Gl X x := by rfl) (hn : x ≠ "__name__" := by decide) (hdb : (x == ("__debug__" : Str)) = false := by decide)
    (he : starEach (e :: es) X.env = (false, eval e X.env) :: starEach es X.env := by rfl) (hpl : (backTo pos (starEach es X.env)).any (·.1) = false := by rfl) : Ev X ρ μ (.Call (.Name x p) (e :: es) [] pos) s μ2 := ⟨fun F as σ D H Q R q =>
  WE.of (pe_callB hc hg hm hv paW hn hdb he hpl) (ha F as σ D H _ R fun vs m D1 H1 e1 R1 k1 => hr F _ σ D1 H1 Q vs R1 k1 (q.after e1))⟩
theorem ev_callG {x : Str} {id : String} {r : List V → Hp → VK → Prop} (hc : CallR X (.builtin id) r) (hm : X.mg x = some (.builtin id)) (ha : Eva X ρ μ (e :: es) ss μ1) (hr : OpC X ρ μ1 r ss s μ2) (hg : Gl X x := by rfl) (hdb : (x == ("__debug__" : Str)) = false := by decide)
    (he : starEach (e :: es) X.env = (false, eval e X.env) :: starEach es X.env := by rfl) (hpl : (backTo pos (starEach es X.env)).any (·.1) = false := by rfl) : Ev X ρ μ (.Call (.Name x p) (e :: es) [] pos) s μ2 := ⟨fun F as σ D H Q R q =>
  WE.of (pe_callBfun hc hg hm paW hdb he hpl) (ha F as σ D H _ R fun vs m D1 H1 e1 R1 k1 => hr F _ σ D1 H1 Q vs R1 k1 (q.after e1))⟩
theorem ev_callT {x : Str} {T : String} {r : List V → Hp → VK → Prop} (hc : CallR X (.type T) r) (hm : X.mg x = none) (hv : bootBuiltins x = some (.type T)) (ha : Eva X ρ μ (e :: es) ss μ1) (hr : OpC X ρ μ1 r ss s μ2) (hg : Gl X x := by rfl) (hn : x ≠ "__name__" := by decide) (hdb : (x == ("__debug__" : Str)) = false := by decide)
    (he : starEach (e :: es) X.env = (false, eval e X.env) :: starEach es X.env := by rfl) (hpl : (backTo pos (starEach es X.env)).any (·.1) = false := by rfl) : Ev X ρ μ (.Call (.Name x p) (e :: es) [] pos) s μ2 := ⟨fun F as σ D H Q R q =>
  WE.of (pe_callTy hc hg hm hv paW hn hdb he hpl) (ha F as σ D H _ R fun vs m D1 H1 e1 R1 k1 => hr F _ σ D1 H1 Q vs R1 k1 (q.after e1))⟩
theorem voks1 {K : PySem.W.Frag} {vs : List V} (h : VOks K D as vs [s]) : ∃ v, vs = [v] ∧ VOk K D as v s := by
  match vs, h with
  | [v], ⟨h, _⟩ => exact ⟨v, rfl, h⟩
theorem voks2 {K : PySem.W.Frag} {vs : List V} (h : VOks K D as vs [sa, sb]) : ∃ v u, vs = [v, u] ∧ VOk K D as v sa ∧ VOk K D as u sb := by
  match vs, h with
  | [v, u], ⟨h, k, _⟩ => exact ⟨v, u, rfl, h, k⟩
theorem boot_tuple0 : bootBuiltins "tuple" = some (.type "tuple") := by decide +kernel
theorem boot_list0 : bootBuiltins "list" = some (.type "list") := by decide +kernel
theorem boot_int0 : bootBuiltins "int" = some (.type "int") := by decide +kernel
theorem boot_bool0 : bootBuiltins "bool" = some (.type "bool") := by decide +kernel
theorem boot_str0 : bootBuiltins "str" = some (.type "str") := by decide +kernel
theorem boot_any0 : bootBuiltins "any" = some (.builtin "any") := by decide +kernel
theorem boot_all0 : bootBuiltins "all" = some (.builtin "all") := by decide +kernel
theorem boot_sum0 : bootBuiltins "sum" = some (.builtin "sum") := by decide +kernel
theorem boot_abs0 : bootBuiltins "abs" = some (.builtin "abs") := by decide +kernel
theorem boot_max0 : bootBuiltins "max" = some (.builtin "max") := by decide +kernel
theorem boot_min0 : bootBuiltins "min" = some (.builtin "min") := by decide +kernel
theorem boot_divmod0 : bootBuiltins "divmod" = some (.builtin "divmod") := by decide +kernel
theorem boot_repr0 : bootBuiltins "repr" = some (.builtin "repr") := by decide +kernel
theorem boot_enum0 : bootBuiltins "enumerate" = some (.type "enumerate") := by decide +kernel
theorem ev_len (h : Seqs μ1 s ds) (hm : X.mg "len" = none) (ha : Ev X ρ μ a s μ1) (hg : Gl X "len" := by rfl) (hs : starEach [a] X.env = (false, eval a X.env) :: starEach [] X.env := by rfl) : Ev X ρ μ (.Call (.Name "len" p) [a] [] pos) (.dat (.int ds.length)) μ1 :=
  ev_callB call_len_seq hm boot_len (eva_cons ha eva_nil hs) (fun F as σ D H Q xs R k q => by
    obtain ⟨v, rfl, kv⟩ := voks1 k
    obtain ⟨a, ys, rfl, hq, hd⟩ := h.val R kv
    refine ⟨a, ys, rfl, hq, ?_⟩
    rw [hd.len]
    exact q.now R (.int _)) (hg := hg) (he := hs)
theorem ev_tupleL (h : SeqsL μ1 s ds) (hm : X.mg "tuple" = none) (ha : Ev X ρ μ a s μ1) (hg : Gl X "tuple" := by rfl) (hs : starEach [a] X.env = (false, eval a X.env) :: starEach [] X.env := by rfl) : Ev X ρ μ (.Call (.Name "tuple" p) [a] [] pos) (.dat (.tuple ds)) μ1 :=
  ev_callT call_tuple_of hm boot_tuple0 (eva_cons ha eva_nil hs) (fun F as σ D H Q xs R k q => by
    obtain ⟨v, rfl, kv⟩ := voks1 k
    obtain ⟨a, ys, rfl, hq, hd⟩ := h.val R kv
    exact ⟨a, ys, rfl, .inl ⟨hq, fun l hl => q.tup R hd hl⟩⟩) (hg := hg) (he := hs)
theorem ev_tupleT (hm : X.mg "tuple" = none) (ha : Ev X ρ μ a (.dat (.tuple ds)) μ1) (hg : Gl X "tuple" := by rfl) (hs : starEach [a] X.env = (false, eval a X.env) :: starEach [] X.env := by rfl) : Ev X ρ μ (.Call (.Name "tuple" p) [a] [] pos) (.dat (.tuple ds)) μ1 :=
  ev_callT call_tuple_of hm boot_tuple0 (eva_cons ha eva_nil hs) (fun F as σ D H Q xs R k q => by
    obtain ⟨v, rfl, kv⟩ := voks1 k
    have k2 := kv
    cases k2 with
    | tup h1 h2 => exact ⟨_, _, rfl, .inr ⟨sqT_mono R.sub h1, q.now R kv⟩⟩) (hg := hg) (he := hs)
/-- list(..), as data, as a list of one's own -/
theorem ev_list (h : Seqs μ1 s ds) (hm : X.mg "list" = none) (ha : Ev X ρ μ a s μ1) (hg : Gl X "list" := by rfl) (hs : starEach [a] X.env = (false, eval a X.env) :: starEach [] X.env := by rfl) : Ev X ρ μ (.Call (.Name "list" p) [a] [] pos) (.dat (.list ds)) μ1 :=
  ev_callT call_list_of hm boot_list0 (eva_cons ha eva_nil hs) (fun F as σ D H Q xs R k q => by
    obtain ⟨v, rfl, kv⟩ := voks1 k
    obtain ⟨a, ys, rfl, hq, hd⟩ := h.val R kv
    exact ⟨a, ys, rfl, hq, fun l hl => q.lst R hd hl⟩) (hg := hg) (he := hs)
theorem ev_listM (h : Seqs μ1 s ds) (hm : X.mg "list" = none) (ha : Ev X ρ μ a s μ1) (hg : Gl X "list" := by rfl) (hs : starEach [a] X.env = (false, eval a X.env) :: starEach [] X.env := by rfl) : Ev X ρ μ (.Call (.Name "list" p) [a] [] pos) (.mut μ1.length) (μ1 ++ [ds]) :=
  ev_callT call_list_of hm boot_list0 (eva_cons ha eva_nil hs) (fun F as σ D H Q xs R k q => by
    obtain ⟨v, rfl, kv⟩ := voks1 k
    obtain ⟨a, ys, rfl, hq, hd⟩ := h.val R kv
    exact ⟨a, ys, rfl, hq, fun l hl => q.mut R hd hl⟩) (hg := hg) (he := hs)
variable {i j : Int}
theorem ev_abs (hm : X.mg "abs" = none) (ha : Ev X ρ μ a (.dat (.int i)) μ1) (hg : Gl X "abs" := by rfl) (hs : starEach [a] X.env = (false, eval a X.env) :: starEach [] X.env := by rfl) : Ev X ρ μ (.Call (.Name "abs" p) [a] [] pos) (.dat (.int (i.natAbs : Int))) μ1 :=
  ev_callB call_abs hm boot_abs0 (eva_cons ha eva_nil hs) (fun F as σ D H Q xs R k q => by
    obtain ⟨v, rfl, kv⟩ := voks1 k
    cases kv
    refine ⟨i, rfl, ?_⟩
    rw [show (if i < 0 then -i else i) = ((i.natAbs : Nat) : Int) by split <;> omega]
    exact q.now R (.int _)) (hg := hg) (he := hs)
theorem ev_intC (hm : X.mg "int" = none) (ha : Ev X ρ μ a (.dat (.int i)) μ1) (hg : Gl X "int" := by rfl) (hs : starEach [a] X.env = (false, eval a X.env) :: starEach [] X.env := by rfl) : Ev X ρ μ (.Call (.Name "int" p) [a] [] pos) (.dat (.int i)) μ1 :=
  ev_callT call_int1 hm boot_int0 (eva_cons ha eva_nil hs) (fun F as σ D H Q xs R k q => by
    obtain ⟨v, rfl, kv⟩ := voks1 k
    cases kv
    exact .inl ⟨i, rfl, q.now R (.int _)⟩) (hg := hg) (he := hs)
theorem ev_max (hc : X.calm = true) (hm : X.mg "max" = none) (ha : Ev X ρ μ a (.dat (.int i)) μ1) (hb : Ev X ρ μ1 b (.dat (.int j)) μ2) (hg : Gl X "max" := by rfl) (hs : starEach [a, b] X.env = (false, eval a X.env) :: starEach [b] X.env := by rfl) (hs2 : starEach [b] X.env = (false, eval b X.env) :: starEach [] X.env := by rfl)
    (hpl : (backTo pos (starEach [b] X.env)).any (·.1) = false := by rfl) : Ev X ρ μ (.Call (.Name "max" p) [a, b] [] pos) (.dat (.int (if j > i then j else i))) μ2 :=
  ev_callB (call_max2 hc) hm boot_max0 (eva_cons ha (eva_cons hb eva_nil hs2) hs) (fun F as σ D H Q xs R k q => by
    obtain ⟨v, u, rfl, kv, ku⟩ := voks2 k
    cases kv
    cases ku
    exact ⟨i, j, rfl, q.now R (.int _)⟩) (hg := hg) (he := hs) (hpl := hpl)
theorem ev_min (hc : X.calm = true) (hm : X.mg "min" = none) (ha : Ev X ρ μ a (.dat (.int i)) μ1) (hb : Ev X ρ μ1 b (.dat (.int j)) μ2) (hg : Gl X "min" := by rfl) (hs : starEach [a, b] X.env = (false, eval a X.env) :: starEach [b] X.env := by rfl) (hs2 : starEach [b] X.env = (false, eval b X.env) :: starEach [] X.env := by rfl)
    (hpl : (backTo pos (starEach [b] X.env)).any (·.1) = false := by rfl) : Ev X ρ μ (.Call (.Name "min" p) [a, b] [] pos) (.dat (.int (if j < i then j else i))) μ2 :=
  ev_callB (call_min2 hc) hm boot_min0 (eva_cons ha (eva_cons hb eva_nil hs2) hs) (fun F as σ D H Q xs R k q => by
    obtain ⟨v, u, rfl, kv, ku⟩ := voks2 k
    cases kv
    cases ku
    exact ⟨i, j, rfl, q.now R (.int _)⟩) (hg := hg) (he := hs) (hpl := hpl)
theorem ev_divmod (hc : CDivP i j) (hm : X.mg "divmod" = none) (ha : Ev X ρ μ a (.dat (.int i)) μ1) (hb : Ev X ρ μ1 b (.dat (.int j)) μ2) (hg : Gl X "divmod" := by rfl) (hs : starEach [a, b] X.env = (false, eval a X.env) :: starEach [b] X.env := by rfl) (hs2 : starEach [b] X.env = (false, eval b X.env) :: starEach [] X.env := by rfl)
    (hpl : (backTo pos (starEach [b] X.env)).any (·.1) = false := by rfl) : Ev X ρ μ (.Call (.Name "divmod" p) [a, b] [] pos) (.dat (.tuple [.int (i / j), .int (i % j)])) μ2 :=
  ev_callB call_divmodW hm boot_divmod0 (eva_cons ha (eva_cons hb eva_nil hs2) hs) (fun F as σ D H Q xs R k q => by
    obtain ⟨v, u, rfl, kv, ku⟩ := voks2 k
    cases kv
    cases ku
    exact ⟨i, j, rfl, hc, fun p hp => q.tup R (.cons (.int _) (.cons (.int _) .nil)) hp⟩) (hg := hg) (he := hs) (hpl := hpl)
theorem ev_gcd {x : Str} (hm : X.mg x = some (.builtin "math.gcd")) (ha : Ev X ρ μ a (.dat (.int i)) μ1) (hb : Ev X ρ μ1 b (.dat (.int j)) μ2) (hg : Gl X x := by rfl) (hdb : (x == ("__debug__" : Str)) = false := by decide) (hs : starEach [a, b] X.env = (false, eval a X.env) :: starEach [b] X.env := by rfl) (hs2 : starEach [b] X.env = (false, eval b X.env) :: starEach [] X.env := by rfl)
    (hpl : (backTo pos (starEach [b] X.env)).any (·.1) = false := by rfl) : Ev X ρ μ (.Call (.Name x p) [a, b] [] pos) (.dat (.int ((Nat.gcd i.natAbs j.natAbs : Nat) : Int))) μ2 :=
  ev_callG cr_gcd hm (eva_cons ha (eva_cons hb eva_nil hs2) hs) (fun F as σ D H Q xs R k q => by
    obtain ⟨v, u, rfl, kv, ku⟩ := voks2 k
    cases kv
    cases ku
    exact ⟨i, j, rfl, q.now R (.int _)⟩) (hg := hg) (hdb := hdb) (he := hs) (hpl := hpl)
theorem ev_sum {ns : List Int} (hc : X.calm = true) (hm : X.mg "sum" = none) (h : SeqsL μ1 s (ns.map PyData.int)) (ha : Ev X ρ μ a s μ1) (hg : Gl X "sum" := by rfl) (hs : starEach [a] X.env = (false, eval a X.env) :: starEach [] X.env := by rfl) : Ev X ρ μ (.Call (.Name "sum" p) [a] [] pos) (.dat (.int ns.sum)) μ1 :=
  ev_callB (cr_sum hc) hm boot_sum0 (eva_cons ha eva_nil hs) (fun F as σ D H Q xs R k q => by
    obtain ⟨v, rfl, kv⟩ := voks1 k
    obtain ⟨a, ys, rfl, hq, hd⟩ := h.val R kv
    have e := hd.ints
    subst e
    exact ⟨a, ns, rfl, hq, q.now R (.int _)⟩) (hg := hg) (he := hs)
theorem ev_all {bs : List Bool} (hc : X.calm = true) (hm : X.mg "all" = none) (ha : Ev X ρ μ a (.dat (.list (bs.map PyData.bool))) μ1) (hg : Gl X "all" := by rfl) (hs : starEach [a] X.env = (false, eval a X.env) :: starEach [] X.env := by rfl) : Ev X ρ μ (.Call (.Name "all" p) [a] [] pos) (.dat (.bool (bs.all id))) μ1 :=
  ev_callB (cr_all hc) hm boot_all0 (eva_cons ha eva_nil hs) (fun F as σ D H Q xs R k q => by
    obtain ⟨v, rfl, kv⟩ := voks1 k
    obtain ⟨a, ys, rfl, hq, hd⟩ := (sl_l (μ := μ1)).val R kv
    have e := hd.bools
    subst e
    exact ⟨a, bs, rfl, hq, q.now R (.bl _)⟩) (hg := hg) (he := hs)
theorem ev_any {bs : List Bool} (hc : X.calm = true) (hm : X.mg "any" = none) (ha : Ev X ρ μ a (.dat (.list (bs.map PyData.bool))) μ1) (hg : Gl X "any" := by rfl) (hs : starEach [a] X.env = (false, eval a X.env) :: starEach [] X.env := by rfl) : Ev X ρ μ (.Call (.Name "any" p) [a] [] pos) (.dat (.bool (bs.any id))) μ1 :=
  ev_callB (cr_any hc) hm boot_any0 (eva_cons ha eva_nil hs) (fun F as σ D H Q xs R k q => by
    obtain ⟨v, rfl, kv⟩ := voks1 k
    obtain ⟨a, ys, rfl, hq, hd⟩ := (sl_l (μ := μ1)).val R kv
    have e := hd.bools
    subst e
    exact ⟨a, bs, rfl, hq, q.now R (.bl _)⟩) (hg := hg) (he := hs)
/-! ### isinstance -/
def tyN : PyData → String
  | .none => "NoneType"
  | .bool _ => "bool"
  | .int _ => "int"
  | .str _ => "str"
  | .list _ => "list"
  | .tuple _ => "tuple"
  | .dict _ => "dict"
theorem dq_ty {K : PySem.W.Frag} {v : V} (h : Dq K D v d) (hs : Same D H) : TyX K H v (.type (tyN d)) := by
  cases h with
  | non => exact .base .non
  | bl b => exact .base (.bl b)
  | int i => exact .base (.int i)
  | str x => exact .base (.str x)
  | lst h q => exact .base (.lst (hs _ _ h))
  | tup h q =>
    rcases sqT_mono hs h with (h | ⟨ob, h⟩) | ⟨ob, its, n, h1, h2, _⟩
    · exact .base (.tup h)
    · exact .fTuple h
    · exact .kTuple h1 h2
theorem ev_isi {T : String} {x : Str} {pT : Pos} {k : Bool} (hm : X.mg "isinstance" = none) (hT : X.mg x = none) (bT : bootBuiltins x = some (.type T)) (hk : kitB (tyN d) T = some k) (ha : Ev X ρ μ a (.dat d) μ1) (hg : Gl X "isinstance" := by rfl) (hgT : Gl X x := by rfl) (hn : x ≠ "__name__" := by decide) (hdb : (x == ("__debug__" : Str)) = false := by decide)
    (hs : starEach [a, .Name x pT] X.env = (false, eval a X.env) :: starEach [.Name x pT] X.env := by rfl) (hs2 : starEach [.Name x pT] X.env = (false, eval (.Name x pT) X.env) :: starEach [] X.env := by rfl) (hpl : (backTo pos (starEach [.Name x pT] X.env)).any (·.1) = false := by rfl) :
    Ev X ρ μ (.Call (.Name "isinstance" p) [a, .Name x pT] [] pos) (.dat (.bool k)) μ1 := ⟨fun F as σ D H Q R q =>
  WE.of (pe_callB call_isi hg hm boot_isinstance (pa_cons peW (pa_cons (pe_bltn hgT hT bT (v := .ty T) rfl hn hdb) pa_nil hs2) hs) (he := hs) (hpl := hpl)) (ha F as σ D H _ R fun v m D1 H1 e1 R1 k1 =>
    ⟨v, .ty T, .type (tyN d), .type T, k, rfl, .ty T, dq_ty k1 R1.sub, kit_ty hk, q _ m D1 H1 e1 R1 (.bl k)⟩)⟩
end
end Gu
end
section
set_option Elab.async false
set_option linter.all false
set_option maxRecDepth 100000
set_option maxHeartbeats 1000000
namespace Gu
open PySem PySem.Spec PyProof.Rows L2
section
variable {X : Cx} {F : Fr0} {ρ : List Slot} {μ μ1 μ2 μ3 μ' : Mem} {as more : List Addr} {σ : L2.St} {D D' H H' : Hp} {Q : VK} {s sa sb : Slot} {e a b c o : Expr} {es : List Expr} {pos p apos : Pos} {d da db : PyData} {ds es' : List PyData} {ss : List Slot} {i j : Int}
/-! ### slices -/
theorem six_nat (n d k : Nat) : HT.sIx n d (some (k : Int)) = min k n := HT.sIx_nat n d k
theorem cut_from (xs : List V) (k : Nat) : cutV xs (some (k : Int)) none = xs.drop k := by
  unfold cutV
  rw [six_nat, HT.sIx_none]
  by_cases h : k ≤ xs.length
  · rw [Nat.min_eq_left h]
    exact List.take_of_length_le (by rw [List.length_drop]; omega)
  · rw [Nat.min_eq_right (by omega), List.drop_of_length_le (Nat.le_refl _), List.drop_of_length_le (by omega)]
    exact List.take_nil
theorem cut_to (xs : List V) (k : Nat) : cutV xs none (some (k : Int)) = xs.take k := by
  unfold cutV
  rw [six_nat, HT.sIx_none, List.drop_zero, Nat.sub_zero]
  by_cases h : k ≤ xs.length
  · rw [Nat.min_eq_left h]
  · rw [Nat.min_eq_right (by omega), List.take_of_length_le (Nat.le_refl _), List.take_of_length_le (by omega)]
theorem DqL.map_take {K : PySem.W.Frag} {xs : List V} (h : DqL K D xs ds) (k : Nat) : DqL K D (xs.take k) (ds.take k) := h.take k
/-- xs[k:], xs[:k] of a list: a new list of data -/
theorem ev_from {k : Nat} {p2 : Pos} (h : SeqsL μ2 s ds) (ha : Ev X ρ μ a s μ1) (hb : Ev X ρ μ1 b (.dat (.int (k : Int))) μ2) : Ev X ρ μ (.Subscript a (.Slice (some b) none none p2) pos) (.dat (.list (ds.drop k))) μ2 := ⟨fun F as σ D H Q R q =>
  WE.of (pe_slice sl_list peW (po_some peW) po_none) (ha F as σ D H _ R fun x m1 D1 H1 e1 R1 k1 => hb F _ σ D1 H1 _ R1 fun y m2 D2 H2 e2 R2 k2 => by
    cases k2
    refine ⟨(k : Int), rfl, ?_⟩
    obtain ⟨a, xs, rfl, hs, hq⟩ := h.val R2 (k1.mono e2)
    refine ⟨a, xs, rfl, hs, fun p hp => ?_⟩
    rw [cut_from]
    exact ((q.after e1).after e2).lst R2 (hq.drop k) hp)⟩
theorem ev_to {k : Nat} {p2 : Pos} (h : SeqsL μ2 s ds) (ha : Ev X ρ μ a s μ1) (hb : Ev X ρ μ1 b (.dat (.int (k : Int))) μ2) : Ev X ρ μ (.Subscript a (.Slice none (some b) none p2) pos) (.dat (.list (ds.take k))) μ2 := ⟨fun F as σ D H Q R q =>
  WE.of (pe_slice sl_list peW po_none (po_some peW)) (ha F as σ D H _ R fun x m1 D1 H1 e1 R1 k1 => hb F _ σ D1 H1 _ R1 fun y m2 D2 H2 e2 R2 k2 => by
    cases k2
    refine ⟨(k : Int), rfl, ?_⟩
    obtain ⟨a, xs, rfl, hs, hq⟩ := h.val R2 (k1.mono e2)
    refine ⟨a, xs, rfl, hs, fun p hp => ?_⟩
    rw [cut_to]
    exact ((q.after e1).after e2).lst R2 (hq.take k) hp)⟩
/-- of a tuple, not the whole -/
theorem ev_fromT {k : Nat} {p2 : Pos} (h0 : 0 < k) (hl : 0 < ds.length) (ha : Ev X ρ μ a (.dat (.tuple ds)) μ1) (hb : Ev X ρ μ1 b (.dat (.int (k : Int))) μ2) : Ev X ρ μ (.Subscript a (.Slice (some b) none none p2) pos) (.dat (.tuple (ds.drop k))) μ2 := ⟨fun F as σ D H Q R q =>
  WE.of (pe_slice sl_tup peW (po_some peW) po_none) (ha F as σ D H _ R fun x m1 D1 H1 e1 R1 k1 => hb F _ σ D1 H1 _ R1 fun y m2 D2 H2 e2 R2 k2 => by
    cases k2
    refine ⟨(k : Int), rfl, ?_⟩
    have k3 := k1.mono (more := m2) e2
    cases k3 with
    | tup hs hq =>
      refine ⟨_, _, rfl, sqT_mono R2.sub hs, ?_, fun p hp => ?_⟩
      · rw [six_nat]
        have := hq.len
        omega
      · rw [cut_from]
        exact ((q.after e1).after e2).tup R2 (hq.drop k) hp)⟩
theorem ev_toT {k : Nat} {p2 : Pos} (hl : k < ds.length) (ha : Ev X ρ μ a (.dat (.tuple ds)) μ1) (hb : Ev X ρ μ1 b (.dat (.int (k : Int))) μ2) : Ev X ρ μ (.Subscript a (.Slice none (some b) none p2) pos) (.dat (.tuple (ds.take k))) μ2 := ⟨fun F as σ D H Q R q =>
  WE.of (pe_slice sl_tup peW po_none (po_some peW)) (ha F as σ D H _ R fun x m1 D1 H1 e1 R1 k1 => hb F _ σ D1 H1 _ R1 fun y m2 D2 H2 e2 R2 k2 => by
    cases k2
    refine ⟨(k : Int), rfl, ?_⟩
    have k3 := k1.mono (more := m2) e2
    cases k3 with
    | tup hs hq =>
      refine ⟨_, _, rfl, sqT_mono R2.sub hs, ?_, fun p hp => ?_⟩
      · rw [six_nat]
        have := hq.len
        omega
      · rw [cut_to]
        exact ((q.after e1).after e2).tup R2 (hq.take k) hp)⟩
/-! ### lists joined, repeated; in -/
theorem ev_cat (hl : small (ds.length + es'.length)) (ha : Ev X ρ μ a (.dat (.list ds)) μ1) (hb : Ev X ρ μ1 b (.dat (.list es')) μ2) : Ev X ρ μ (.BinOp a .Add b pos) (.dat (.list (ds ++ es'))) μ2 := ev_op op_cat ha hb fun F as σ D H Q x y R k1 k2 q => by
  cases k1 with
  | lst h1 q1 =>
    cases k2 with
    | lst h2 q2 => exact ⟨_, _, _, _, rfl, rfl, R.sub _ _ h1, R.sub _ _ h2, by rw [q1.len, q2.len]; exact hl.line, fun p hp => q.lst R (q1.app q2) hp⟩
/-- a list of one's own and one of data: a new list of data -/
theorem ev_catM {j : Nat} (hj : μ2[j]? = some ds) (hl : small (ds.length + es'.length)) (ha : Ev X ρ μ a (.mut j) μ1) (hb : Ev X ρ μ1 b (.dat (.list es')) μ2) : Ev X ρ μ (.BinOp a .Add b pos) (.dat (.list (ds ++ es'))) μ2 := ev_op op_cat ha hb fun F as σ D H Q x y R k1 k2 q => by
  obtain ⟨a, ha, rfl⟩ := k1
  obtain ⟨xs, h1, q1⟩ := R.mem j a ds ha hj
  cases k2 with
  | lst h2 q2 => exact ⟨_, _, _, _, rfl, rfl, h1, R.sub _ _ h2, by rw [q1.len, q2.len]; exact hl.line, fun p hp => q.lst R (q1.app q2) hp⟩
theorem ev_repM (h0 : 0 ≤ j) (h1 : j ≤ 1000) (hl : small (ds.length * j.toNat)) (ha : Ev X ρ μ a (.dat (.list ds)) μ1) (hb : Ev X ρ μ1 b (.dat (.int j)) μ2) : Ev X ρ μ (.BinOp a .Mult b pos) (.mut μ2.length) (μ2 ++ [(List.replicate j.toNat ds).flatten]) := ev_op op_rep ha hb fun F as σ D H Q x y R k1 k2 q => by
  cases k2
  cases k1 with
  | lst h2 q2 => exact ⟨_, j, _, rfl, rfl, R.sub _ _ h2, by omega, by omega, by rw [q2.len]; exact hl.line, fun p hp => q.mut R (q2.rep _) hp⟩
theorem ev_repT (h0 : 2 ≤ j) (h1 : j ≤ 1000) (hn : ds ≠ []) (hl : ds.length ≤ 1000) (ha : Ev X ρ μ a (.dat (.tuple ds)) μ1) (hb : Ev X ρ μ1 b (.dat (.int j)) μ2) : Ev X ρ μ (.BinOp a .Mult b pos) (.dat (.tuple (List.replicate j.toNat ds).flatten)) μ2 := ev_op op_repT ha hb fun F as σ D H Q x y R k1 k2 q => by
  cases k2
  cases k1 with
  | tup h2 q2 => exact ⟨_, j, _, rfl, rfl, sqT_mono R.sub h2, fun z => hn (by subst z; cases q2; rfl), h0, h1, by rw [q2.len]; exact hl, fun p hp => q.tup R (q2.rep _) hp⟩
/-- flat data in a display -/
def flatD : PyData → Bool
  | .none => true
  | .bool _ => true
  | .int _ => true
  | .str _ => true
  | _ => false
def eqF : PyData → PyData → Bool
  | .int i, .int j => decide (i = j)
  | .str x, .str y => decide (x = y)
  | _, _ => false
def inF (d : PyData) (ds : List PyData) : Bool := ds.any fun y => eqF y d
/-- ints among ints, texts among texts -/
def kin : PyData → PyData → Bool
  | .int _, .int _ => true
  | .str _, .str _ => true
  | _, _ => false
theorem eqV_kin {K : PySem.W.Frag} {v u : V} (hv : Dq K D v d) (hu : Dq K D u da) (k : kin d da = true) : eqV v u = eqF d da ∧ flatV v = true ∧ flatV u = true := by
  cases hv <;> cases hu <;> first | (cases k; done) | (refine ⟨?_, rfl, rfl⟩; simp [eqV, eqF, Bool.beq_eq_decide_eq])
theorem inV_kin {K : PySem.W.Frag} {u : V} (hu : Dq K D u da) : ∀ {vs : List V} {ds : List PyData}, DqL K D vs ds → (∀ d, d ∈ ds → kin d da = true) → inV u vs = inF da ds ∧ vs.all flatV = true
  | _, [], h, _ => by
    cases h
    exact ⟨rfl, rfl⟩
  | _, d :: ds, h, f => by
    cases h with
    | cons h q =>
      obtain ⟨e1, e2, _⟩ := eqV_kin h hu (f d List.mem_cons_self)
      obtain ⟨e3, e4⟩ := inV_kin hu q fun d hd => f d (List.mem_cons_of_mem _ hd)
      unfold inV inF at *
      rw [List.any_cons, List.any_cons, e1, e3, List.all_cons, e2, e4]
      exact ⟨rfl, rfl⟩
theorem kin_flat {K : PySem.W.Frag} {u : V} (hu : Dq K D u da) (k : flatD da = true) : flatV u = true := by
  cases hu <;> first | rfl | (cases k; done)
theorem o2_in (hn : Seqs μ s ds) (hf : flatD da = true) (hk : ∀ d, d ∈ ds → kin d da = true) : Op2 X ρ μ (rIn X.K false) (.dat da) s (.dat (.bool (inF da ds))) μ := fun F as σ D H Q x y R k1 k2 q => by
  obtain ⟨a, xs, rfl, hs, hq⟩ := hn.val R k2
  obtain ⟨e1, e2⟩ := inV_kin k1 hq hk
  refine ⟨a, xs, rfl, hs, kin_flat k1 hf, e2, ?_⟩
  rw [if_neg Bool.false_ne_true, e1]
  exact q.now R (.bl _)
theorem o2_nin (hn : Seqs μ s ds) (hf : flatD da = true) (hk : ∀ d, d ∈ ds → kin d da = true) : Op2 X ρ μ (rIn X.K true) (.dat da) s (.dat (.bool (!inF da ds))) μ := fun F as σ D H Q x y R k1 k2 q => by
  obtain ⟨a, xs, rfl, hs, hq⟩ := hn.val R k2
  obtain ⟨e1, e2⟩ := inV_kin k1 hq hk
  refine ⟨a, xs, rfl, hs, kin_flat k1 hf, e2, ?_⟩
  rw [if_pos rfl, e1]
  exact q.now R (.bl _)
theorem evt_in (hn : Seqs μ2 s ds) (hf : flatD da = true) (hk : ∀ d, d ∈ ds → kin d da = true) (ha : Ev X ρ μ a (.dat da) μ1) (hb : Ev X ρ μ1 b s μ2) (hm : behindInMarks .In b = false := by rfl) : Evt X ρ μ (.Compare a [.In] [b] pos) (inF da ds) μ2 := evt_cmp op_in_seq hm ha hb (o2_in hn hf hk)
theorem evt_nin (hn : Seqs μ2 s ds) (hf : flatD da = true) (hk : ∀ d, d ∈ ds → kin d da = true) (ha : Ev X ρ μ a (.dat da) μ1) (hb : Ev X ρ μ1 b s μ2) (hm : behindInMarks .NotIn b = false := by rfl) : Evt X ρ μ (.Compare a [.NotIn] [b] pos) (!inF da ds) μ2 := evt_cmp op_notIn_seq hm ha hb (o2_nin hn hf hk)
/-! ### index of an int -/
theorem mt_lix : MtR X "list.index" (fun x xs H Q => ∃ (p : Addr) (ns : List Int) (k : Int), x = .ref p ∧ xs = [.int k] ∧ SqL X.K H p (ns.map V.int) ∧ k ∈ ns ∧ Q (.int (ns.idxOf k : Nat)) H) := by
  intro pins s σ H x xs v us Q I rx rs h
  obtain ⟨p, ns, k, rfl, rfl, hq, hk, q⟩ := h
  cases rx
  obtain ⟨u, rfl, t, rfl⟩ := vals1 rs
  obtain ⟨its, r, pl, hz⟩ := I.list hq
  exact PySem.SeqAt.list_index_ints pl.isList (Vals.ints r) (by rw [List.length_map] at hz; exact hz) hk ⟨.int _, H, I.tok _, ⟨_, rfl⟩, q⟩
theorem mt_tix : MtR X "tuple.index" (fun x xs H Q => ∃ (p : Addr) (ns : List Int) (k : Int), x = .ref p ∧ xs = [.int k] ∧ SqT X.K H p (ns.map V.int) ∧ k ∈ ns ∧ Q (.int (ns.idxOf k : Nat)) H) := by
  intro pins s σ H x xs v us Q I rx rs h
  obtain ⟨p, ns, k, rfl, rfl, hq, hk, q⟩ := h
  cases rx
  obtain ⟨u, rfl, t, rfl⟩ := vals1 rs
  obtain ⟨its, r, pl, hz⟩ := I.tuple hq
  exact PySem.SeqAt.tuple_index_ints pl (Vals.ints r) hk ⟨.int _, H, I.tok _, ⟨_, rfl⟩, q⟩
end
end Gu
end
section
set_option Elab.async false
set_option linter.all false
set_option maxRecDepth 100000
set_option maxHeartbeats 1000000
namespace Gu
open PySem PySem.Spec PyProof.Rows L2
/-! ### what a def promises -/
def New (D H D' : Hp) : Prop := ∀ b o, D' b = some o → (∃ u, D b = some u) ∨ H b = none
/-- from data to data -/
def spD (K : PySem.W.Frag) (post : List PyData → PyData → Prop) : Sp := fun vs H Q _ => ∃ (D : Hp) (ds : List PyData) (d : PyData), Same D H ∧ DqL K D vs ds ∧ post ds d ∧
  ∀ v D' H', Same D D' → Same D' H' → Same H H' → New D H D' → Dq K D' v d → Q v H'
/-- the first argument a list that changes -/
def spV (K : PySem.W.Frag) (post : List PyData → List PyData → PyData → List PyData → Prop) : Sp := fun vs H Q _ => ∃ (D : Hp) (a : Addr) (vs' xs : List V) (ms ds : List PyData) (d : PyData) (ms' : List PyData),
  vs = .ref a :: vs' ∧ H a = some (.lst xs) ∧ D a = none ∧ DqL K D xs ms ∧ Same D H ∧ DqL K D vs' ds ∧ post ms ds d ms' ∧
  ∀ v D' H' xs', Same D D' → Same D' H' → (∀ b o, b ≠ a → H b = some o → H' b = some o) → New D H D' → D' a = none → H' a = some (.lst xs') → DqL K D' xs' ms' → Dq K D' v d → Q v H'
/-- from the script and data to a list of one's own -/
def spN (K : PySem.W.Frag) (post : List Int → List PyData → List PyData → Prop) : Sp := fun vs H Q _ => ∃ (D : Hp) (a : Addr) (vs' : List V) (ns : List Int) (ds ms : List PyData),
  vs = .ref a :: vs' ∧ SqL K D a (ns.map V.int) ∧ Same D H ∧ DqL K D vs' ds ∧ post ns ds ms ∧
  ∀ p D' H' xs, Same D D' → Same D' H' → Same H H' → New D H D' → H p = none → D' p = none → H' p = some (.lst xs) → DqL K D' xs ms → Q (.ref p) H'
/-- from the script and data to data -/
def spS (K : PySem.W.Frag) (post : List Int → List PyData → PyData → Prop) : Sp := fun vs H Q _ => ∃ (D : Hp) (a : Addr) (vs' : List V) (ns : List Int) (ds : List PyData) (d : PyData),
  vs = .ref a :: vs' ∧ SqL K D a (ns.map V.int) ∧ Same D H ∧ DqL K D vs' ds ∧ post ns ds d ∧
  ∀ v D' H', Same D D' → Same D' H' → Same H H' → New D H D' → Dq K D' v d → Q v H'
section
variable {X : Cx} {F : Fr0} {ρ : List Slot} {μ μ1 μ2 μ3 μ' : Mem} {as more : List Addr} {σ : L2.St} {D D' H H' : Hp} {Q : VK} {s sa sb : Slot} {e a b c o : Expr} {es : List Expr} {pos p apos : Pos} {d da db : PyData} {ds es' : List PyData} {ss : List Slot}
/-- behind a call that keeps all that was -/
theorem Rel.call (R : Rel X.K F ρ μ as σ D H) (e1 : Same D D') (e2 : Same D' H') (e3 : Same H H') (n : New D H D') : Rel X.K F ρ μ as σ D' H' where
  sub := e2
  sd := R.sd.trans e1
  env := fun i s h => (R.env i s h).imp id fun ⟨v, q, k⟩ => ⟨v, q, k.mono0 e1⟩
  len := R.len
  mem := fun j a ds h1 h2 => by
    obtain ⟨xs, q, k⟩ := R.mem j a ds h1 h2
    exact ⟨xs, e3 _ _ q, k.mono' e1⟩
  nd := R.nd
  out := fun a ha => by
    cases q : D' a with
    | none => rfl
    | some u =>
      rcases n a u q with ⟨u2, z⟩ | z
      · rw [R.out a ha] at z
        cases z
      · exact absurd ha (R.newA z)
  own := R.own
  frame := fun b o h hb => e3 _ _ (R.frame b o h hb)
  fresh := fun b o h => by
    rcases n b o h with ⟨u, z⟩ | z
    · exact R.fresh b u z
    · exact .inr (R.newF z)
/-- behind a call that has changed the list j -/
theorem Rel.callV (R : Rel X.K F ρ μ as σ D H) {j : Nat} {a : Addr} {xs' : List V} {ms' : List PyData} (ha : as[j]? = some a) (e1 : Same D D') (e2 : Same D' H') (e3 : ∀ b o, b ≠ a → H b = some o → H' b = some o) (n : New D H D') (h' : H' a = some (.lst xs')) (hq : DqL X.K D' xs' ms') :
    Rel X.K F ρ (μ.set j ms') as σ D' H' where
  sub := e2
  sd := R.sd.trans e1
  env := fun i s h => (R.env i s h).imp id fun ⟨v, q, k⟩ => ⟨v, q, k.mono0 e1⟩
  len := by rw [List.length_set]; exact R.len
  mem := fun i b ds h1 h2 => by
    by_cases hi : i = j
    · subst hi
      rw [ha] at h1
      cases h1
      rw [List.getElem?_set_self (by rw [← R.len]; exact (List.getElem?_eq_some_iff.mp ha).1)] at h2
      cases h2
      exact ⟨xs', h', hq⟩
    · rw [List.getElem?_set_ne (Ne.symm hi)] at h2
      obtain ⟨xs, q, k⟩ := R.mem i b ds h1 h2
      exact ⟨xs, e3 _ _ (fun z => hi (by subst z; exact nd_ix R.nd h1 ha)) q, k.mono' e1⟩
  nd := R.nd
  out := fun b hb => by
    cases q : D' b with
    | none => rfl
    | some u =>
      rcases n b u q with ⟨u2, z⟩ | z
      · rw [R.out b hb] at z
        cases z
      · exact absurd hb (R.newA z)
  own := R.own
  frame := fun b o h hb => by
    have z := R.frame b o h hb
    refine e3 _ _ (fun k => ?_) z
    subst k
    obtain ⟨l, e4, f⟩ := R.own
    have hm := List.mem_of_getElem? ha
    rw [e4] at hm
    rcases List.mem_append.mp hm with q | q
    · exact hb q
    · rw [f b q] at h
      cases h
  fresh := fun b o h => by
    rcases n b o h with ⟨u, z⟩ | z
    · exact R.fresh b u z
    · exact .inr (R.newF z)
/-! ### a def by its name -/
structure Def (P : Program) (w : World) (K : PySem.W.Frag) (mg : Str → Option Value) (base : Heap) (x : Str) (k : Nat) (sp : Sp) : Prop where
  ex : ∃ (f : Addr) (fd : FuncData) (ps : List Str), FnOk P w K mg base CX0 k f fd ps sp ∧ mg x = some (.ref f) ∧ PySem.W.keepIn K (.ref f) = true ∧ Binds K fd ps []
variable {k j : Nat} {x : Str}
theorem ev_call {post : List PyData → PyData → Prop} (G : Def X.prog X.w X.K X.mg X.base x k (spD X.K post)) (hr : Room k X.A) (ha : Evd X ρ μ (e :: es) ds μ') (hp : post ds d) (hg : Gl X x := by rfl) (hdb : (x == ("__debug__" : Str)) = false := by decide)
    (he : starEach (e :: es) X.env = (false, eval e X.env) :: starEach es X.env := by rfl) (hpl : (backTo pos (starEach es X.env)).any (·.1) = false := by rfl) : Ev X ρ μ (.Call (.Name x p) (e :: es) [] pos) (.dat d) μ' := ⟨fun F as σ D H Q R q => by
  obtain ⟨f, fd, ps, G, hm, hk, hb⟩ := G.ex
  refine WE.of (pe_call G hr hg hm hk hb .nil pass0 paW hdb he hpl) (ha F as σ D H _ R fun vs m D1 H1 e1 R1 k1 => ?_)
  rw [List.append_nil]
  exact ⟨D1, ds, d, R1.sub, voks_dq k1, hp, fun v D2 H2 e2 e3 e4 n k2 => (q.after e1).after e2 v [] D2 H2 (Same.refl _) (by rw [List.append_nil, List.append_nil]; exact R1.call e2 e3 e4 n) (VOk.nil (VOk.nil k2))⟩⟩
end
end Gu
end
section
set_option Elab.async false
set_option linter.all false
set_option maxRecDepth 100000
set_option maxHeartbeats 1000000
namespace Gu
open PySem PySem.Spec PyProof.Rows L2
/-! ### statements -/
inductive Out where
  | nx (ρ : List Slot) (μ : Mem)
  | rt (s : Slot) (μ : Mem)
def ends (K : PySem.W.Frag) (F : Fr0) (P : Out → Prop) : Ends where
  nx := fun σ H => ∃ ρ μ as D, P (.nx ρ μ) ∧ Rel K F ρ μ as σ D H
  rt := fun v H => ∃ s ρ μ as σ D, P (.rt s μ) ∧ Rel K F ρ μ as σ D H ∧ VOk K D as v s
structure Ws (X : Cx) (st : List Stmt) (ρ : List Slot) (μ : Mem) (P : Out → Prop)  : Prop where
  run : ∀ (F : Fr0) (as : List Addr) (σ : L2.St) (D H : Hp), Rel X.K F ρ μ as σ D H → WB X st (ends X.K F P) σ H
instance Ws.fn {X : Cx} {st : List Stmt} {ρ : List Slot} {μ : Mem} {P : Out → Prop} : CoeFun (Ws X st ρ μ P) (fun _ => ∀ (F : Fr0) (as : List Addr) (σ : L2.St) (D H : Hp), Rel X.K F ρ μ as σ D H → WB X st (ends X.K F P) σ H) := ⟨fun h => h.run⟩
def thenP (R : List Slot → Mem → Prop) (P : Out → Prop) : Out → Prop
  | .nx ρ μ => R ρ μ
  | o => P o
section
variable {X : Cx} {F : Fr0} {ρ ρ' : List Slot} {μ μ1 μ2 μ3 μ' : Mem} {as more : List Addr} {σ : L2.St} {D D' H H' : Hp} {Q : VK} {s sa sb : Slot} {e a b c o : Expr} {es : List Expr} {pos p apos : Pos} {d da db : PyData} {ds es' : List PyData} {ss : List Slot} {st rest body els : List Stmt} {P P' : Out → Prop} {i j : Nat} {x y z : Str}
theorem WB.mono {D D' : Ends} {σ : L2.St} {H : Hp} (h : WB X st D σ H) (h1 : ∀ σ H, D.nx σ H → D'.nx σ H) (h2 : ∀ v H, D.rt v H → D'.rt v H) (h3 : ∀ σ H, D.bk σ H → D'.bk σ H) (h4 : ∀ σ H, D.ct σ H → D'.ct σ H) : WB X st D' σ H := fun pins s I => thn (h pins s I) fun f s' q => by
  cases f with
  | next =>
    obtain ⟨σ', H', I', q⟩ := q
    exact ⟨σ', H', I', h1 _ _ q⟩
  | brk =>
    obtain ⟨σ', H', I', q⟩ := q
    exact ⟨σ', H', I', h3 _ _ q⟩
  | cont =>
    obtain ⟨σ', H', I', q⟩ := q
    exact ⟨σ', H', I', h4 _ _ q⟩
  | ret u =>
    obtain ⟨v, σ', H', I', r, q⟩ := q
    exact ⟨v, σ', H', I', r, h2 _ _ q⟩
theorem Ws.mono (h : Ws X st ρ μ P) (f : ∀ o, P o → P' o) : Ws X st ρ μ P' := ⟨fun F as σ D H R => WB.mono (h F as σ D H R) (fun _ _ ⟨ρ, μ, as, D, p, r⟩ => ⟨ρ, μ, as, D, f _ p, r⟩) (fun _ _ ⟨s, ρ, μ, as, σ, D, p, r⟩ => ⟨s, ρ, μ, as, σ, D, f _ p, r⟩) (fun _ _ h => h) fun _ _ h => h⟩
theorem ws_nil (h : P (.nx ρ μ)) : Ws X [] ρ μ P := ⟨fun F as σ D H R => WB.of pss_nil ⟨ρ, μ, as, D, h, R⟩⟩
theorem ws_ret (h : Ev X ρ μ e s μ') (hp : P (.rt s μ')) : Ws X (.Return (some e) pos :: rest) ρ μ P := ⟨fun F as σ D H R =>
  WB.of (pss_cons (ps_ret peW) pbW) (h F as σ D H _ R fun v m D1 H1 e1 R1 k => ⟨s, ρ, μ', _, σ, D1, hp, R1, k⟩)⟩
theorem ws_set (h : Ev X ρ μ e s μ') (k : Ws X rest (ρ.set i s) μ' P) {p' : Pos} (hN : X.N.Nodup) (hi : X.N[i]? = some x := by rfl) (hx : Loc X.env.scope x := by first | exact Or.inl rfl | exact Or.inr rfl)
    (hs : swapsWith e (some (.Name x p')) pos.line X.env = pure false := by rfl) (hf : X.fn x = true ∨ X.env.scope.names.lookup x = some .local := by first | exact .inl rfl | exact .inr rfl) : Ws X (.Assign [.Name x p'] e pos :: rest) ρ μ P := ⟨fun F as σ D H R pins s0 I =>
  WB.of (pss_cons (ps_set hN hi hx peW hs hf) pbW) (h F as σ D H _ R fun v m D1 H1 e1 R1 kv => k F _ _ D1 H1 (R1.set (by rw [I.len]; exact (List.getElem?_eq_some_iff.mp hi).1) kv)) pins s0 I⟩
/-- a, b = e1, e2 with two plain names -/
theorem ws_par (h : Eva X ρ μ [a, b] [sa, sb] μ') (k : Ws X rest ((ρ.set i sa).set j sb) μ' P) {px py pt pt2 : Pos} {kt k2 : Nat} (hc : X.calm = true) (hN : X.N.Nodup) (hi : X.N[i]? = some x := by rfl) (hj : X.N[j]? = some y := by rfl) (hij : i ≠ j := by decide)
    (hx : X.env.scope.names.lookup x = some .local := by rfl) (hy : X.env.scope.names.lookup y = some .local := by rfl)
    (hw : swappedStores [.Tuple [.Name x px, .Name y py] kt pt] (.Tuple [a, b] k2 pt2) X.env = pure (some [x, y]) := by rfl) (hs : swapsWithSole [.Tuple [.Name x px, .Name y py] kt pt] (.Tuple [a, b] k2 pt2) pos.line X.env = pure false := by rfl) :
    Ws X (.Assign [.Tuple [.Name x px, .Name y py] kt pt] (.Tuple [a, b] k2 pt2) pos :: rest) ρ μ P := ⟨fun F as σ D H R pins s0 I =>
  WB.of (pss_cons (ps_par hc hN hi hj hij hx hy paW hw hs) pbW) (h F as σ D H _ R fun vs m D1 H1 e1 R1 kv => by
    obtain ⟨v, u, rfl, k1, k3⟩ := voks2 kv
    have li : i < σ.length := by rw [I.len]; exact (List.getElem?_eq_some_iff.mp hi).1
    have lj : j < σ.length := by rw [I.len]; exact (List.getElem?_eq_some_iff.mp hj).1
    exact ⟨v, u, rfl, k F _ _ D1 H1 ((R1.set li k1).set (by rw [List.length_set]; exact lj) k3)⟩) pins s0 I⟩
/-! ### targets -/
structure Evg (X : Cx) (tg : Expr) (d : PyData) (f : List Slot → List Slot)  : Prop where
  run : ∀ (F : Fr0) (ρ : List Slot) (μ : Mem) (as : List Addr) (σ : L2.St) (D H : Hp) (v : V) (Q : L2.St → Hp → Prop), Rel X.K F ρ μ as σ D H → Dq X.K D v d → (∀ σ', Rel X.K F (f ρ) μ as σ' D H → Q σ' H) → WG X tg v σ H Q
instance Evg.fn {X : Cx} {tg : Expr} {d : PyData} {f : List Slot → List Slot} : CoeFun (Evg X tg d f) (fun _ => ∀ (F : Fr0) (ρ : List Slot) (μ : Mem) (as : List Addr) (σ : L2.St) (D H : Hp) (v : V) (Q : L2.St → Hp → Prop), Rel X.K F ρ μ as σ D H → Dq X.K D v d → (∀ σ', Rel X.K F (f ρ) μ as σ' D H → Q σ' H) → WG X tg v σ H Q) := ⟨fun h => h.run⟩
theorem evg_name {px : Pos} (hN : X.N.Nodup) (hi : X.N[i]? = some x := by rfl) (hx : Loc X.env.scope x := by first | exact Or.inl rfl | exact Or.inr rfl) (hf : X.fn x = true ∨ X.env.scope.names.lookup x = some .local := by first | exact .inl rfl | exact .inr rfl) :
    Evg X (.Name x px) d (fun ρ => ρ.set i (.dat d)) := ⟨fun F ρ μ as σ D H v Q R k q pins s0 u I r =>
  WG.of (pg_name hN hi hx hf) (q _ (R.set (by rw [I.len]; exact (List.getElem?_eq_some_iff.mp hi).1) k)) pins s0 u I r⟩
theorem evg_two {t1 t2 : Expr} {d1 d2 : PyData} {f1 f2 : List Slot → List Slot} {kt : Nat} {pt : Pos} (hc : X.calm = true) (h1 : Evg X t1 d1 f1) (h2 : Evg X t2 d2 f2) (hs1 : (assignEach [t1, t2] X.env).map (·.2) = assign t1 X.env :: (assignEach [t2] X.env).map (·.2) := by rfl)
    (hs2 : (assignEach [t2] X.env).map (·.2) = assign t2 X.env :: (assignEach [] X.env).map (·.2) := by rfl) (hn : (assignEach [t1, t2] X.env).length = 2 := by rfl) (hst : (assignEach [t1, t2] X.env).findIdx? (·.1) = none := by rfl) :
    Evg X (.Tuple [t1, t2] kt pt) (.tuple [d1, d2]) (fun ρ => f2 (f1 ρ)) := ⟨fun F ρ μ as σ D H v Q R k q => by
  refine WG.of (pg_tup hc (pgs_cons pgW (pgs_cons pgW pgs_nil hs2) hs1) hn hst) ?_
  cases k with
  | tup hs hq =>
    cases hq with
    | cons k1 hq =>
      cases hq with
      | cons k2 hq =>
        cases hq
        exact ⟨_, _, rfl, sqT_mono R.sub hs, rfl, _, _, rfl, h1 F ρ μ as σ D H _ _ R k1 fun σ1 R1 => ⟨_, _, rfl, h2 F _ μ as σ1 D H _ _ R1 k2 fun σ2 R2 => ⟨rfl, q _ R2⟩⟩⟩⟩
theorem evg_three {t1 t2 t3 : Expr} {d1 d2 d3 : PyData} {f1 f2 f3 : List Slot → List Slot} {kt : Nat} {pt : Pos} (hc : X.calm = true) (h1 : Evg X t1 d1 f1) (h2 : Evg X t2 d2 f2) (h3 : Evg X t3 d3 f3)
    (hs1 : (assignEach [t1, t2, t3] X.env).map (·.2) = assign t1 X.env :: (assignEach [t2, t3] X.env).map (·.2) := by rfl) (hs2 : (assignEach [t2, t3] X.env).map (·.2) = assign t2 X.env :: (assignEach [t3] X.env).map (·.2) := by rfl)
    (hs3 : (assignEach [t3] X.env).map (·.2) = assign t3 X.env :: (assignEach [] X.env).map (·.2) := by rfl) (hn : (assignEach [t1, t2, t3] X.env).length = 3 := by rfl) (hst : (assignEach [t1, t2, t3] X.env).findIdx? (·.1) = none := by rfl) :
    Evg X (.Tuple [t1, t2, t3] kt pt) (.tuple [d1, d2, d3]) (fun ρ => f3 (f2 (f1 ρ))) := ⟨fun F ρ μ as σ D H v Q R k q => by
  refine WG.of (pg_tup hc (pgs_cons pgW (pgs_cons pgW (pgs_cons pgW pgs_nil hs3) hs2) hs1) hn hst) ?_
  cases k with
  | tup hs hq =>
    cases hq with
    | cons k1 hq =>
      cases hq with
      | cons k2 hq =>
        cases hq with
        | cons k3 hq =>
          cases hq
          exact ⟨_, _, rfl, sqT_mono R.sub hs, rfl, _, _, rfl, h1 F ρ μ as σ D H _ _ R k1 fun σ1 R1 => ⟨_, _, rfl, h2 F _ μ as σ1 D H _ _ R1 k2 fun σ2 R2 => ⟨_, _, rfl, h3 F _ μ as σ2 D H _ _ R2 k3 fun σ3 R3 => ⟨rfl, q _ R3⟩⟩⟩⟩⟩
/-- from a list of three -/
theorem evg_threeL {t1 t2 t3 : Expr} {d1 d2 d3 : PyData} {f1 f2 f3 : List Slot → List Slot} {kt : Nat} {pt : Pos} (hc : X.calm = true) (h1 : Evg X t1 d1 f1) (h2 : Evg X t2 d2 f2) (h3 : Evg X t3 d3 f3)
    (hs1 : (assignEach [t1, t2, t3] X.env).map (·.2) = assign t1 X.env :: (assignEach [t2, t3] X.env).map (·.2) := by rfl) (hs2 : (assignEach [t2, t3] X.env).map (·.2) = assign t2 X.env :: (assignEach [t3] X.env).map (·.2) := by rfl)
    (hs3 : (assignEach [t3] X.env).map (·.2) = assign t3 X.env :: (assignEach [] X.env).map (·.2) := by rfl) (hn : (assignEach [t1, t2, t3] X.env).length = 3 := by rfl) (hst : (assignEach [t1, t2, t3] X.env).findIdx? (·.1) = none := by rfl) :
    Evg X (.Tuple [t1, t2, t3] kt pt) (.list [d1, d2, d3]) (fun ρ => f3 (f2 (f1 ρ))) := ⟨fun F ρ μ as σ D H v Q R k q => by
  refine WG.of (pg_unl hc (pgs_cons pgW (pgs_cons pgW (pgs_cons pgW pgs_nil hs3) hs2) hs1) hn hst) ?_
  cases k with
  | lst hs hq =>
    cases hq with
    | cons k1 hq =>
      cases hq with
      | cons k2 hq =>
        cases hq with
        | cons k3 hq =>
          cases hq
          exact ⟨_, _, rfl, .inl (.inl (R.sub _ _ hs)), rfl, _, _, rfl, h1 F ρ μ as σ D H _ _ R k1 fun σ1 R1 => ⟨_, _, rfl, h2 F _ μ as σ1 D H _ _ R1 k2 fun σ2 R2 => ⟨_, _, rfl, h3 F _ μ as σ2 D H _ _ R2 k3 fun σ3 R3 => ⟨rfl, q _ R3⟩⟩⟩⟩⟩
/-- target = e -/
theorem ws_asg {tg : Expr} {f : List Slot → List Slot} (h : Ev X ρ μ e (.dat d) μ') (hg : Evg X tg d f) (k : Ws X rest (f ρ) μ' P) (hs : swapsWithSole [tg] e pos.line X.env = pure false := by rfl) (hw : swappedStores [tg] e X.env = pure none := by rfl)
    (h1 : (assignEach [tg] X.env).map (·.2) = [assign tg X.env] := by rfl) : Ws X (.Assign [tg] e pos :: rest) ρ μ P := ⟨fun F as σ D H R =>
  WB.of (pss_cons (ps_asg peW pgW hs hw h1) pbW) (h F as σ D H _ R fun v m D1 H1 e1 R1 kv => hg F _ _ _ _ D1 H1 v _ R1 kv fun σ' R2 => k F _ _ D1 H1 R2)⟩
/-- xs[i] = e, xs a list of one's own -/
theorem ws_setix {oi : Expr} {pt : Pos} {i : Int} (h : Ev X ρ μ e (.dat d) μ1) (ho : Ev X ρ μ1 o (.mut j) μ2) (hi : Ev X ρ μ2 oi (.dat (.int i)) μ3) (hj : μ3[j]? = some ds) (h0 : 0 ≤ i) (hl : i < ds.length) (k : Ws X rest ρ (μ3.set j (ds.set i.toNat d)) P)
    (hs : swapsWithSole [.Subscript o oi pt] e pos.line X.env = pure false := by rfl) (hw : swappedStores [.Subscript o oi pt] e X.env = pure none := by rfl) (h1 : (assignEach [.Subscript o oi pt] X.env).map (·.2) = [assign (.Subscript o oi pt) X.env] := by rfl)
    (ha : ∀ v, assign (.Subscript o oi pt) X.env v = (do
      let ov ← holding [v] (eval o X.env)
      let iv ← holding [v, ov] (eval oi X.env)
      standAt pt
      holding [v, ov, iv] (setItem ov iv v)
      release [v, ov, iv] []) := by intro _; rfl) : Ws X (.Assign [.Subscript o oi pt] e pos :: rest) ρ μ P := ⟨fun F as σ D H R =>
  WB.of (pss_cons (ps_asg peW (pg_sub peW peW set_list ha) hs hw h1) pbW) (h F as σ D H _ R fun v m D1 H1 e1 R1 kv => ho F _ σ D1 H1 _ R1 fun u m2 D2 H2 e2 R2 ku => hi F _ σ D2 H2 _ R2 fun w m3 D3 H3 e3 R3 kw => by
    cases kw
    obtain ⟨a, ha2, rfl⟩ := ku.mono (more := m3) e3
    obtain ⟨xs, hx, hq⟩ := R3.mem j a ds ha2 hj
    have hv : Dq X.K D3 v d := Dq.mono' (e2.trans e3) kv
    refine ⟨a, xs, i, i.toNat, rfl, rfl, hx, ?_, k F _ σ D3 _ (R3.wr ha2 (hq.set _ hv))⟩
    unfold ixN
    rw [if_pos h0, if_pos (by rw [hq.len]; exact hl)])⟩
/-- xs.append(e) -/
theorem ws_append (ho : Ev X ρ μ o (.mut j) μ1) (h : Ev X ρ μ1 e (.dat d) μ2) (hj : μ2[j]? = some ds) (hl : small ds.length) (k : Ws X rest ρ (μ2.set j (ds ++ [d])) P) {cpos : Pos} (hj1 : μ1[j]?.isSome = true := by rfl)
    (hsw : swapsWith (.Call (.Attribute o "append" apos) [e] [] cpos) none pos.line X.env = pure false := by rfl) (hbase : attributeBase o "append" X.env (eval o X.env) = eval o X.env := by rfl)
    (hfew : ((backTo cpos (starEach (e :: []) X.env)).all (fun x => !x.1) && (backToKw cpos (keywordEach [] X.env)).all (fun x => x.1.isSome)
      && decide ((e :: []).length + ([] : List Keyword).length + (if ([] : List Keyword).isEmpty then 0 else 1) < 30)) = true := by rfl)
    (hline : (apos.endLine == cpos.line) = true := by rfl) (hs : starEach (e :: []) X.env = (false, eval e X.env) :: starEach [] X.env := by rfl) (hplain : (backTo cpos (starEach [] X.env)).any (·.1) = false := by rfl) :
    Ws X (.Expr (.Call (.Attribute o "append" apos) [e] [] cpos) pos :: rest) ρ μ P := ⟨fun F as σ D H R =>
  WB.of (pss_cons (ps_expr (pe_bm PySem.F.plainAttrs_list PySem.F.slot_list_append PySem.F.type_list_append mt_append peW (pa_cons peW pa_nil hs) hbase hfew hline hs hplain) hsw) pbW) (ho F as σ D H _ R fun v m D1 H1 e1 R1 kv => by
    obtain ⟨a, ha, rfl⟩ := kv
    obtain ⟨zs, hz⟩ := Option.isSome_iff_exists.mp hj1
    obtain ⟨xs1, hx1, _⟩ := R1.mem j a zs ha hz
    refine ⟨.inl ⟨rfl, xs1, .inl (.inl hx1)⟩, h F _ σ D1 H1 _ R1 fun u m2 D2 H2 e2 R2 ku => ?_⟩
    have ha2 : (as ++ m ++ m2)[j]? = some a := by
      rw [List.getElem?_append_left (List.getElem?_eq_some_iff.mp ha).1]
      exact ha
    obtain ⟨xs, hx, hq⟩ := R2.mem j a ds ha2 hj
    exact ⟨a, xs, u, rfl, rfl, hx, by rw [hq.len]; exact hl.lt, k F _ σ D2 _ (R2.wr ha2 (hq.app (.cons ku .nil)))⟩)⟩
/-- an expression whose value is dropped -/
theorem ws_expr (h : Ev X ρ μ e s μ') (k : Ws X rest ρ μ' P) (hs : swapsWith e none pos.line X.env = pure false := by rfl) : Ws X (.Expr e pos :: rest) ρ μ P := ⟨fun F as σ D H R =>
  WB.of (pss_cons (ps_expr peW hs) pbW) (h F as σ D H _ R fun v m D1 H1 e1 R1 kv => k F _ σ D1 H1 R1)⟩
theorem ws_if {k : Bool} (hc : Evt X ρ μ c k μ1) (ht : k = true → Ws X body ρ μ1 (thenP (fun ρ μ => Ws X rest ρ μ P) P)) (hf : k = false → Ws X els ρ μ1 (thenP (fun ρ μ => Ws X rest ρ μ P) P)) : Ws X (.If c body els pos :: rest) ρ μ P := ⟨fun F as σ D H R =>
  WB.of (pss_cons (ps_if ptW pbW pbW) pbW) (hc F as σ D H _ R fun m D1 H1 e1 R1 => by
    have go : ∀ {b : List Stmt}, Ws X b ρ μ1 (thenP (fun ρ μ => Ws X rest ρ μ P) P) → WB X b { ends X.K F P with nx := WB X rest (ends X.K F P) } σ H1 := fun h =>
      WB.mono (h F _ σ D1 H1 R1) (fun _ _ ⟨ρ2, μ2, as2, D2, p, r⟩ => Ws.run (X := X) (st := rest) (P := P) p F as2 _ D2 _ r) (fun _ _ ⟨s, ρ2, μ2, as2, σ2, D2, p, r⟩ => ⟨s, ρ2, μ2, as2, σ2, D2, p, r⟩) (fun _ _ h => h) fun _ _ h => h
    cases k with
    | true => exact go (ht rfl)
    | false => exact go (hf rfl))⟩
/-- an if whose body leaves, no else -/
theorem ws_ifr {k : Bool} (hc : Evt X ρ μ c k μ1) (ht : k = true → Ws X body ρ μ1 (thenP (fun _ _ => False) P)) (hf : k = false → Ws X rest ρ μ1 P) : Ws X (.If c body [] pos :: rest) ρ μ P :=
  ws_if hc (fun z => (ht z).mono fun o p => by
    cases o with
    | nx ρ μ => exact False.elim p
    | rt s μ => exact p) fun z => ws_nil (hf z)
/-! ### what is walked -/
structure WalkD (K : PySem.W.Frag) (J : It) (ds : List PyData) (D : Hp) : Prop where
  goes : ∀ i H, i < ds.length → Same D H → J.go i H
  stops : ∀ H, Same D H → J.stop ds.length H
  yields : ∀ i H x H', i < ds.length → Same D H → J.yld i H x H' → ∃ d, ds[i]? = some d ∧ ((H' = H ∧ Dq K D x d) ∨ ∃ T xs es, H T = none ∧ H' = upd H T (.tup xs) ∧ x = .ref T ∧ d = .tuple es ∧ DqL K D xs es)
structure Evi (X : Cx) (ρ : List Slot) (μ : Mem) (tg it : Expr) (ds : List PyData) (μ' : Mem)  : Prop where
  run : ∀ (F : Fr0) (as : List Addr) (σ : L2.St) (D H : Hp) (R : It → Hp → Prop), Rel X.K F ρ μ as σ D H → (∀ (J : It) (more : List Addr) (D' H' : Hp), Same D D' → Rel X.K F ρ μ' (as ++ more) σ D' H' → WalkD X.K J ds D' → R J H') → WI X tg it σ H R
instance Evi.fn {X : Cx} {ρ : List Slot} {μ : Mem} {tg it : Expr} {ds : List PyData} {μ' : Mem} : CoeFun (Evi X ρ μ tg it ds μ') (fun _ => ∀ (F : Fr0) (as : List Addr) (σ : L2.St) (D H : Hp) (R : It → Hp → Prop), Rel X.K F ρ μ as σ D H → (∀ (J : It) (more : List Addr) (D' H' : Hp), Same D D' → Rel X.K F ρ μ' (as ++ more) σ D' H' → WalkD X.K J ds D' → R J H') → WI X tg it σ H R) := ⟨fun h => h.run⟩
def rngD (lo : Int) (n : Nat) : List PyData := (List.range n).map fun i => .int (lo + (i : Nat))
theorem rngD_at {lo : Int} {n i : Nat} (h : i < n) : (rngD lo n)[i]? = some (.int (lo + (i : Nat))) := by
  unfold rngD
  rw [List.getElem?_map, List.getElem?_range h]
  rfl
theorem rngD_len (lo : Int) (n : Nat) : (rngD lo n).length = n := by
  unfold rngD
  rw [List.length_map, List.length_range]
theorem walk_rng (K : PySem.W.Frag) (lo : Int) (n : Nat) (D : Hp) : WalkD K (Itr lo n) (rngD lo n) D := by
  have l := rngD_len lo n
  refine ⟨fun i H hi _ => by rw [l] at hi; exact hi, fun H _ => by rw [l]; exact Nat.le_refl _, fun i H x H' hi _ y => ?_⟩
  rw [l] at hi
  obtain ⟨e1, e2⟩ := y
  exact ⟨_, rngD_at hi, .inl ⟨e1, by rw [e2]; exact .int _⟩⟩
variable {tg it : Expr}
theorem evi_r1 {n : Int} (hm : X.mg "range" = none) (h : Ev X ρ μ a (.dat (.int n)) μ') (h1 : -1000000 ≤ n) (h2 : n ≤ 1000000) (hg : Gl X "range" := by rfl) (hs : starEach [a] X.env = [(false, eval a X.env)] := by rfl)
    (hs' : starEach [a] X.env = (false, eval a X.env) :: starEach [] X.env := by rfl) : Evi X ρ μ tg (.Call (.Name "range" p) [a] [] pos) (rngD 0 n.toNat) μ' := ⟨fun F as σ D H R r q =>
  WI.of (pi_range1 hg hm (pa_cons peW pa_nil hs') hs) (h F as σ D H _ r fun v m D1 H1 e1 R1 k => by
    cases k
    exact ⟨n, rfl, by omega, by omega, q _ m D1 H1 e1 R1 (walk_rng _ _ _ _)⟩)⟩
theorem evi_r2 {n l : Int} (hm : X.mg "range" = none) (h : Ev X ρ μ a (.dat (.int l)) μ1) (h' : Ev X ρ μ1 b (.dat (.int n)) μ') (h0 : -1000000 ≤ l) (h00 : l ≤ 1000000) (h1 : -1000000 ≤ n) (h2 : n ≤ 1000000) (hg : Gl X "range" := by rfl) (hs : starEach [a, b] X.env = [(false, eval a X.env), (false, eval b X.env)] := by rfl)
    (hs2 : starEach [b] X.env = [(false, eval b X.env)] := by rfl) (hs' : starEach [a, b] X.env = (false, eval a X.env) :: starEach [b] X.env := by rfl) (hs3 : starEach [b] X.env = (false, eval b X.env) :: starEach [] X.env := by rfl) :
    Evi X ρ μ tg (.Call (.Name "range" p) [a, b] [] pos) (rngD l (n - l).toNat) μ' := ⟨fun F as σ D H R r q =>
  WI.of (pi_range2 hg hm (pa_cons peW (pa_cons peW pa_nil hs3) hs') hs hs2) (h F as σ D H _ r fun v m D1 H1 e1 R1 k => h' F _ σ D1 H1 _ R1 fun u m2 D2 H2 e2 R2 k2 => by
    cases k
    cases k2
    exact ⟨l, n, rfl, ⟨by omega, by omega, by omega, by omega⟩, q _ (m ++ m2) D2 H2 (e1.trans e2) (by rw [← List.append_assoc]; exact R2) (walk_rng _ _ _ _)⟩)⟩
theorem sqL_mono {K : PySem.W.Frag} {D D' : Hp} {a : Addr} {xs : List V} (e : Same D D') (h : SqL K D a xs) : SqL K D' a xs := e.seq h
/-- a list of data -/
theorem evi_l (h : Ev X ρ μ it (.dat (.list ds)) μ') : Evi X ρ μ tg it ds μ' := ⟨fun F as σ D H R r q =>
  WI.of (pi_list peW) (h F as σ D H _ r fun v m D1 H1 e1 R1 k => by
    cases k with
    | lst h1 h2 =>
      rename_i a xs
      refine ⟨a, rfl, ⟨xs, .inl (.inl (R1.sub _ _ h1))⟩, q _ m D1 H1 e1 R1 ?_⟩
      have w := walk_list (K := X.K) (a := a) (xs := xs)
      rw [h2.len] at w
      refine ⟨fun i H hi s => w.goes i H hi (.inl (.inl (s _ _ h1))), fun H s => w.stops H (.inl (.inl (s _ _ h1))), fun i H x H' hi s y => ?_⟩
      obtain ⟨e3, e4⟩ := w.yields i H x H' hi (.inl (.inl (s _ _ h1))) y
      obtain ⟨d, e5, k⟩ := h2.at' e4
      exact ⟨d, e5, .inl ⟨e3, k⟩⟩)⟩
theorem evi_t (h : Ev X ρ μ it (.dat (.tuple ds)) μ') : Evi X ρ μ tg it ds μ' := ⟨fun F as σ D H R r q =>
  WI.of (pi_tup peW) (h F as σ D H _ r fun v m D1 H1 e1 R1 k => by
    cases k with
    | tup h1 h2 =>
      rename_i a xs
      refine ⟨a, rfl, ⟨xs, sqT_mono R1.sub h1⟩, q _ m D1 H1 e1 R1 ?_⟩
      have w := walk_tup (K := X.K) (a := a) (xs := xs)
      rw [h2.len] at w
      refine ⟨fun i H hi s => w.goes i H hi (sqT_mono s h1), fun H s => w.stops H (sqT_mono s h1), fun i H x H' hi s y => ?_⟩
      obtain ⟨e3, e4⟩ := w.yields i H x H' hi (sqT_mono s h1) y
      obtain ⟨d, e5, k⟩ := h2.at' e4
      exact ⟨d, e5, .inl ⟨e3, k⟩⟩)⟩
end
end Gu
end
section
set_option Elab.async false
set_option linter.all false
set_option maxRecDepth 100000
set_option maxHeartbeats 1000000
namespace Gu
open PySem PySem.Spec PyProof.Rows L2
section
variable {X : Cx} {F : Fr0} {ρ ρ' : List Slot} {μ μ1 μ2 μ3 μ' : Mem} {as more : List Addr} {σ : L2.St} {D D' H H' : Hp} {Q : VK} {s sa sb : Slot} {e a b c o tg it : Expr} {es : List Expr} {pos p apos : Pos} {d da db : PyData} {ds es' : List PyData} {ss : List Slot} {st rest body els : List Stmt} {P P' : Out → Prop} {i j : Nat} {x y z : Str}
/-! ### for, while -/
theorem Rel.dat' (R : Rel X.K F ρ μ as σ D H) {p : Addr} {xs : List V} (hp : H p = none) (k : DqL X.K D xs ds) : Rel X.K F ρ μ as σ (upd D p (.tup xs)) (upd H p (.tup xs)) ∧ Dq X.K (upd D p (.tup xs)) (.ref p) (.tuple ds) :=
  ⟨R.dat hp, .tup (.inl (.inl upd_same)) (k.mono' (same_new (none_sub R.sub hp)))⟩
theorem ws_for {I : Nat → List Slot → Mem → Prop} (hp : PassesOwn (model X.prog X.w) X.A X.env X.xe) (hc : X.calm = true) (hi : Evi X ρ μ tg it ds μ1)
    (h0 : I 0 ρ μ1) (hb : ∀ i d ρ μ, ds[i]? = some d → I i ρ μ → ∃ f, Evg X tg d f ∧ Ws X body (f ρ) μ (thenP (I (i + 1)) P)) (hk : ∀ ρ μ, I ds.length ρ μ → Ws X rest ρ μ P)
    (hs : ∀ x, foldedSetIterable it X.env x = pure x := by intro _; rfl) : Ws X (.For tg it body [] pos :: rest) ρ μ P := ⟨fun F as σ D H R =>
  WB.of (pss_cons (ps_for hp hc piW pgW pbW hs) pbW) (hi F as σ D H _ R fun J m D1 H1 e1 R1 w => by
    refine ⟨fun i n σ H => n = ds.length - i ∧ i ≤ ds.length ∧ ∃ ρ μ as2 D2, I i ρ μ ∧ Rel X.K (Fr0.here D1 H1 (as ++ m)) ρ μ as2 σ D2 H, ⟨ds.length, rfl, Nat.zero_le _, ρ, μ1, as ++ m, D1, h0, R1.in⟩, ?_⟩
    rintro i n σ2 H2 ⟨rfl, hi, ρ2, μ2, as2, D2, q, R2⟩
    have s2 : Same D1 H2 := R2.sd.trans R2.sub
    obtain ⟨l2, rfl⟩ := R2.grown
    have back : ∀ {ρ3 μ3 as3 σ3 D3 H3}, Rel X.K (Fr0.here D1 H1 (as ++ m)) ρ3 μ3 as3 σ3 D3 H3 → Rel X.K F ρ3 μ3 as3 σ3 D3 H3 := fun k => by
      obtain ⟨l, rfl⟩ := k.grown
      exact R1.back2 k
    by_cases hl : i = ds.length
    · subst hl
      exact .inl ⟨w.stops _ s2, hk ρ2 μ2 q F _ σ2 D2 H2 (back R2)⟩
    · have hlt : i < ds.length := by omega
      refine .inr ⟨w.goes i H2 hlt s2, fun σ' H' => ∃ ρ μ as3 D3, I (i + 1) ρ μ ∧ Rel X.K (Fr0.here D1 H1 (as ++ m)) ρ μ as3 σ' D3 H', fun σ' H' q => ⟨ds.length - (i + 1), by omega, rfl, hlt, q⟩, fun x H3 y => ?_⟩
      obtain ⟨d, hd, y⟩ := w.yields i H2 x H3 hlt s2 y
      obtain ⟨f, hg, hw⟩ := hb i d ρ2 μ2 hd q
      have go : ∀ {D3 : Hp}, Rel X.K (Fr0.here D1 H1 (as ++ m)) ρ2 μ2 (as ++ m ++ l2) σ2 D3 H3 → Dq X.K D3 x d → WG X tg x σ2 H3 (fun σ4 H4 => WB X body { (ends X.K F P) with nx := fun σ' H' => ∃ ρ μ as3 D3, I (i + 1) ρ μ ∧ Rel X.K (Fr0.here D1 H1 (as ++ m)) ρ μ as3 σ' D3 H', ct := fun σ' H' => ∃ ρ μ as3 D3, I (i + 1) ρ μ ∧ Rel X.K (Fr0.here D1 H1 (as ++ m)) ρ μ as3 σ' D3 H', bk := fun σ' H' => WB X rest (ends X.K F P) σ' H' } σ4 H4) := fun {D3} R3 k3 =>
        hg _ ρ2 μ2 _ σ2 D3 H3 x _ R3 k3 fun σ4 R4 => WB.mono (hw _ _ σ4 D3 H3 R4) (fun _ _ ⟨ρ, μ, as, D, q, r⟩ => ⟨ρ, μ, as, D, q, r⟩) (fun _ _ ⟨s, ρ, μ, as, σ, D, q, r, k⟩ => ⟨s, ρ, μ, as, σ, D, q, back r, k⟩) (fun _ _ q => False.elim q) fun _ _ q => False.elim q
      rcases y with ⟨rfl, k⟩ | ⟨T, xs, es, hT, rfl, rfl, rfl, k⟩
      · exact go R2 (k.mono' R2.sd)
      · obtain ⟨R3, k3⟩ := R2.dat' hT (k.mono' R2.sd)
        exact go R3 k3)⟩
theorem ws_forN {I : Nat → List Slot → Mem → Prop} {px : Pos} (j : Nat) (hp : PassesOwn (model X.prog X.w) X.A X.env X.xe) (hc : X.calm = true) (hN : X.N.Nodup) (hi : Evi X ρ μ (.Name x px) it ds μ1)
    (h0 : I 0 ρ μ1) (hb : ∀ i d ρ μ, ds[i]? = some d → I i ρ μ → Ws X body (ρ.set j (.dat d)) μ (thenP (I (i + 1)) P)) (hk : ∀ ρ μ, I ds.length ρ μ → Ws X rest ρ μ P) (hj : X.N[j]? = some x := by rfl) (hx : Loc X.env.scope x := by first | exact Or.inl rfl | exact Or.inr rfl)
    (hf : X.fn x = true ∨ X.env.scope.names.lookup x = some .local := by first | exact .inl rfl | exact .inr rfl) (hs : ∀ x, foldedSetIterable it X.env x = pure x := by intro _; rfl) : Ws X (.For (.Name x px) it body [] pos :: rest) ρ μ P :=
  ws_for hp hc hi h0 (fun i d ρ μ h q => ⟨_, evg_name hN hj hx hf, hb i d ρ μ h q⟩) hk hs
theorem ws_while {I : Nat → List Slot → Mem → Prop} {n : Nat} (hp : PassesOwn (model X.prog X.w) X.A X.env X.xe) (h0 : I n ρ μ)
    (hb : ∀ n ρ μ, I n ρ μ → ∃ k μ', Evt X ρ μ c k μ' ∧ (k = true → Ws X body ρ μ' (thenP (fun ρ μ => ∃ m, m < n ∧ I m ρ μ) P)) ∧ (k = false → Ws X rest ρ μ' P)) : Ws X (.While c body [] pos :: rest) ρ μ P := ⟨fun F as σ D H R =>
  WB.of (pss_cons (ps_while hp ptW pbW) pbW) (by
    refine ⟨fun n σ H => ∃ ρ μ as D, I n ρ μ ∧ Rel X.K F ρ μ as σ D H, ⟨n, ρ, μ, as, D, h0, R⟩, ?_⟩
    rintro n σ2 H2 ⟨ρ2, μ2, as2, D2, q, R2⟩
    obtain ⟨k, μ3, hc, ht, hf⟩ := hb n ρ2 μ2 q
    refine hc F as2 σ2 D2 H2 _ R2 fun m D3 H3 e3 R3 => ?_
    cases k with
    | true =>
      refine ⟨fun σ' H' => ∃ ρ μ as D, (∃ m, m < n ∧ I m ρ μ) ∧ Rel X.K F ρ μ as σ' D H', ?_, ?_⟩
      · rintro σ' H' ⟨ρ, μ, as, D, ⟨m, hm, q⟩, r⟩
        exact ⟨m, hm, ρ, μ, as, D, q, r⟩
      · exact WB.mono (ht rfl F _ σ2 D3 H3 R3) (fun _ _ ⟨ρ, μ, as, D, q, r⟩ => ⟨ρ, μ, as, D, q, r⟩) (fun _ _ ⟨s, ρ, μ, as, σ, D, q, r, k⟩ => ⟨s, ρ, μ, as, σ, D, q, r, k⟩) (fun _ _ q => False.elim q) fun _ _ q => False.elim q
    | false => exact hf rfl F _ σ2 D3 H3 R3)⟩
/-! ### enumerate over a tuple -/
set_option maxHeartbeats 1000000 in
theorem meets_enumT {v : Value} {o : Obj} {H : Heap → Prop} (B : Begins v o H) :
    Meets (Builtin.«enumerate.__new__» ⟨[.type "enumerate", v], []⟩) (fun _ R s => H s.heap ∧
      R (.ok (.ret (.ref (s.heap.push o).objs.size))) { s with heap := (s.heap.push o).push { cls := .type "enumerate", data := .fields #[.none, .bool false, .ref s.heap.objs.size, rawInt 0, .none, .none] } }) :=
  .of_wp fun prog w A R s h => by
    obtain ⟨hp, g, d, tk, os⟩ := s; obtain ⟨h1, h⟩ := h
    have hsub := sub_enumerate
    have q1 : ∀ {A' : Around} {E : Value → Shared → Prop} {Q : Value → Shared → Prop}, Q (.ref hp.objs.size) ⟨hp.push o, g, d, tk, os⟩ → wpAny (model prog w) A' (pyIter v) Q E ⟨hp, g, d, tk, os⟩ :=
      fun q => B.iter prog w _ _ ⟨hp, g, d, tk, os⟩ _ h1 q
    wp_walk using q1
    refine wpAny_stack_any fun st => wpAny_pure ?_
    split
    · rename_i c _ _ _ _ _
      cases (c == Value.type "enumerate")
      · wp_walk using q1
        exact ⟨_, rfl, h⟩
      · wp_walk using q1
        exact ⟨_, rfl, h⟩
    · wp_walk using q1
      exact ⟨_, rfl, h⟩
theorem enumT_call {prog : Program} {w : World} {A : Around} {E : Value → Shared → Prop} {s : Shared} {v : Value} {o : Obj} {H : Heap → Prop} {Q : Value → Shared → Prop} (B : Begins v o H) (h1 : H s.heap)
    (h : ∀ h', IsEnum h' (s.heap.objs.size + 1) s.heap.objs.size 0 .none → h'.get? s.heap.objs.size = some o → h'.objs.size = s.heap.objs.size + 2 →
      (∀ b o, s.heap.get? b = some o → h'.get? b = some o) → Q (.ref (s.heap.objs.size + 1)) { s with heap := h' }) :
    wpAny (model prog w) A (call (.type "enumerate") [v]) Q E s := by
  refine callType_new F.called_enumerate (by decide) (F.typeCall_enumerate_1 _) (F.newCall_enumerate_1 _) (fun obj => F.args_object_init_2 obj _) F.entry_enumerate_new
    (meets_enumT B) ⟨h1, ?_⟩
  have hz : (s.heap.push o).objs.size = s.heap.objs.size + 1 := Heap.size_push ..
  show _ ∧ _
  rw [hz]
  have he : IsEnum ((s.heap.push o).push { cls := .type "enumerate", data := .fields #[.none, .bool false, .ref s.heap.objs.size, rawInt 0, .none, .none] }) (s.heap.objs.size + 1) s.heap.objs.size 0 .none := by
    have := Heap.get?_push_size (s.heap.push o) (o := { cls := .type "enumerate", data := .fields #[.none, .bool false, .ref s.heap.objs.size, rawInt 0, .none, .none] }) rfl
    rw [hz] at this; exact this
  exact ⟨⟨_, he, rfl⟩, h _ he (Heap.get?_push_of_some _ (Heap.get?_push_size _ B.free)) (by rw [Heap.size_push, hz]) fun b o x => Heap.get?_push_of_some _ (Heap.get?_push_of_some _ x)⟩
/-- the tuple at a, numbered -/
def ItT (K : PySem.W.Frag) (a : Addr) : It :=
  ⟨fun i H => ∃ (xs : List V) (x : V), SqT K H a xs ∧ xs[i]? = some x, fun i H v H' => ∃ T x, v = .ref T ∧ H T = none ∧ H' = upd H T (.tup [.int (i : Nat), x]) ∧ ∀ xs, SqT K H a xs → xs[i]? = some x, fun i H => ∃ xs : List V, SqT K H a xs ∧ xs.length = i⟩
theorem turn_enumT {P : Program} {w : World} {K : PySem.W.Frag} {elts : List Expr} {kk : Nat} {tpos : Pos} (a e it : Addr) :
    Turn P w K (.Tuple elts kk tpos) (ItT K a) [e, it] e (fun i h => (∃ old, IsEnum h e it ((i : Nat) : Int) old) ∧ h.IsTupleIter it a i ∧ e ≠ it) where
  mem := by simp
  obj := fun i h st b hb => by
    obtain ⟨⟨old, he⟩, ⟨o, ho, hc, hd⟩, _⟩ := st
    have e' : b = e ∨ b = it := by simpa using hb
    rcases e' with rfl | rfl
    · exact ⟨_, he, fun v q => nomatch q⟩
    · exact ⟨o, ho, fun v q => by rw [hd] at q; cases q⟩
  keep := fun i h h' st k => let ⟨⟨old, he⟩, hi, hne⟩ := st; ⟨⟨old, k e (by simp) _ he⟩, hi.at fun o q => k it (by simp) o q, hne⟩
  item := by
    intro X hP hw hK hc i pins s σ H E I hf st hg
    subst hP hw hK
    obtain ⟨⟨old, he⟩, hit, hne⟩ := st
    obtain ⟨xs, x, hq, hx⟩ := hg
    obtain ⟨its, rv, p, hz⟩ := I.tuple hq
    obtain ⟨u, hu, ru⟩ := rv.get hx
    have hel : e < s.heap.objs.size := Heap.lt_size he
    have hil : it < s.heap.objs.size := by obtain ⟨_, q, _⟩ := hit; exact Heap.lt_size q
    have p : s.heap.IsTuple a its.toArray := p
    have nae : a ≠ e := fun z => by
      subst z
      obtain ⟨o, h1, h2, _⟩ := p
      rw [he] at h1
      cases h1
      exact absurd (Value.type.inj h2) (by decide)
    have nai : a ≠ it := fun z => by
      subst z
      obtain ⟨o, h1, h2, _⟩ := p
      obtain ⟨o', h3, h4, _⟩ := hit
      rw [h3] at h1
      cases h1
      rw [h4] at h2
      exact absurd (Value.type.inj h2) (by decide)
    have hlt : i < its.toArray.size := by
      have := (List.getElem?_eq_some_iff.mp hu).1
      simpa using this
    refine wpAny_pyNext_enum_itemC (Draws.tuple (A := X.A.in1) (I.ok.hd hc) it a nai its.toArray) he ⟨hit, p⟩ hlt hne (by intro z; rcases List.mem_cons.mp z with z | z; exact hne z; exact nae (List.mem_singleton.mp z).symm) fun y h' tk hy ho hst' hT hsz hk => ?_
    obtain ⟨hit', _⟩ := hst'
    have ey : y = u := by
      have hy2 : its.toArray[i]? = some y := hy
      rw [List.getElem?_toArray, hu] at hy2
      exact (Option.some.inj hy2).symm
    subst ey
    refine ⟨_, rfl, wpAny_letOwnedTupleGo_enum (s := { s with heap := h', toks := tk + 1 }) ho fun h'' he' sb => ?_⟩
    have hT2 : h''.get? s.heap.objs.size = some { cls := .type "tuple", data := .seq #[.int i tk, y] } := (sb.2 _ (Nat.ne_of_gt hel)).trans hT
    have new : ObjOk X.prog X.w (upd H s.heap.objs.size (.tup [.int (i : Nat), x])) h'' s.heap.objs.size (.tup [.int (i : Nat), x]) :=
      ⟨by show 2 ≤ sizeLine; decide, [.int i tk, y], .cons ⟨_, rfl⟩ (.cons ru .nil), ⟨_, hT2, rfl, _, rfl⟩⟩
    have I1 : Inv X pins σ (upd H s.heap.objs.size (.tup [.int (i : Nat), x])) { s with heap := h'', toks := tk + 1 } :=
      I.turnedNew (ch := [e, it]) (fun b ob hb q => (sb.2 b (fun z => hb (by simp [z]))).trans (hk b ob (fun z => hb (by simp [z])) (fun z => hb (by simp [z])) q)) hf (Nat.le_refl _) new
    refine ⟨.ref s.heap.objs.size, _, I1, rfl, ⟨_, x, rfl, I.hok.fresh (Nat.le_refl _), rfl, fun ys hy => by rw [I.tuple_inj hy hq]; exact hx⟩, ⟨⟨y, ?_⟩, hit'.at fun o q => (sb.2 it (Ne.symm hne)).trans q, hne⟩, fun b hb => ?_⟩
    · have e1 : ((i + 1 : Nat) : Int) = (i : Int) + 1 := by omega
      rw [e1]; exact he'
    · have hb' : b < s.heap.objs.size := by
        have e' : b = e ∨ b = it := by simpa using hb
        rcases e' with rfl | rfl
        · exact hel
        · exact hil
      rw [upd_ne (Nat.ne_of_lt hb')]
      exact (hf b hb).1
  done := by
    intro X hP hw hK hc i pins s σ H E I hf st hg
    subst hP hw hK
    obtain ⟨⟨old, he⟩, hit, hne⟩ := st
    obtain ⟨xs, hq, hx⟩ := hg
    obtain ⟨its, rv, p, hz⟩ := I.tuple hq
    obtain ⟨f0, f1, f2, f3, f4, f5⟩ := hf it (by simp)
    have p : s.heap.IsTuple a its.toArray := p
    have nai : a ≠ it := fun z => by
      subst z
      obtain ⟨o, h1, h2, _⟩ := p
      obtain ⟨o', h3, h4, _⟩ := hit
      rw [h3] at h1
      cases h1
      rw [h4] at h2
      exact absurd (Value.type.inj h2) (by decide)
    have hl : its.toArray.size = i := by
      rw [List.size_toArray, ← rv.length]
      exact hx
    subst hl
    exact wpAny_pyNext_enum_endD (Draws.tuple (A := X.A.in1) (I.ok.hd hc) it a nai its.toArray) he ⟨hit, p⟩ fun h' eb => ⟨rfl, I.turned (t' := s.toks) (fun b o hb q => eb b o hb q) f0 f1 f3 f4 f5⟩
  self := fun A i s Q E st h => let ⟨⟨_, he⟩, _⟩ := st; wpAny_pyIter_enum he h
def iEnumT (K : PySem.W.Frag) (ta : TA) : TI := fun σ H R => ta σ H fun vs H1 => ∃ a xs, vs = [.ref a] ∧ SqT K H1 a xs ∧ R (ItT K a) H1
theorem pi_enumT {e : Expr} {ta : TA} {tpos : Pos} {elts : List Expr} {kk : Nat} (hg : Gl X "enumerate") (hm : X.mg "enumerate" = none) (ha : PA X [e] ta) (hs : starEach [e] X.env = [(false, eval e X.env)] := by rfl) :
    PI X (.Tuple elts kk tpos) (.Call (.Name "enumerate" p) [e] [] pos) (iEnumT X.K ta) := by
  refine ⟨fun pins s σ H R I h => ?_⟩
  refine Call_ (ld_blt I hg hm boot_enumerate (PyProof.Rows.callWith_type1 (thn (ha.run pos pins s σ H _ I h) fun us s1 ⟨vs, H1, I1, r1, q1⟩ => ?_) hs rfl))
  obtain ⟨a, xs, ex, hq, q⟩ := q1
  subst ex
  cases r1 with
  | cons r rr =>
    cases rr
    cases r
    obtain ⟨its, rv, p', hz⟩ := I1.tuple hq
    refine enumT_call (begins_tuple a its.toArray) p' fun h' he hit hsz hk => wpAny_pyIter_enum he ?_
    have I2 : Inv X pins σ H1 { s1 with heap := h' } := I1.kept (t' := s1.toks) hk
    refine ⟨s1.heap.objs.size + 1, [s1.heap.objs.size + 1, s1.heap.objs.size], _, _, H1, rfl, I2, turn_enumT a (s1.heap.objs.size + 1) s1.heap.objs.size, ⟨⟨.none, he⟩, ⟨_, hit, rfl, rfl⟩, Nat.succ_ne_self _⟩, fun b hb => ?_, q⟩
    have e' : b = s1.heap.objs.size + 1 ∨ b = s1.heap.objs.size := by simpa using hb
    have hle : s1.heap.objs.size ≤ b := by
      rcases e' with rfl | rfl
      · exact Nat.le_add_right _ _
      · exact Nat.le_refl _
    exact I1.fpOk hle (I1.hok.fresh hle)
def numD : Nat → List PyData → List PyData
  | _, [] => []
  | i, d :: ds => .tuple [.int (i : Nat), d] :: numD (i + 1) ds
theorem numD_len : ∀ (n : Nat) (ds : List PyData), (numD n ds).length = ds.length
  | _, [] => rfl
  | n, d :: ds => by unfold numD; rw [List.length_cons, List.length_cons, numD_len (n + 1) ds]
theorem numD_at : ∀ (ds : List PyData) (n i : Nat) (d : PyData), ds[i]? = some d → (numD n ds)[i]? = some (.tuple [.int ((n + i : Nat) : Int), d])
  | [], _, _, _, h => by simp at h
  | d :: ds, n, 0, _, h => by
    cases h
    rfl
  | d :: ds, n, i + 1, _, h => by
    have z := numD_at ds (n + 1) i _ (by simpa using h)
    rw [show n + (i + 1) = n + 1 + i by omega]
    exact z
theorem evi_enumT {elts : List Expr} {kk : Nat} {tpos : Pos} (hm : X.mg "enumerate" = none) (h : Ev X ρ μ e (.dat (.tuple ds)) μ') (hg : Gl X "enumerate" := by rfl) (hs : starEach [e] X.env = [(false, eval e X.env)] := by rfl)
    (hs' : starEach [e] X.env = (false, eval e X.env) :: starEach [] X.env := by rfl) : Evi X ρ μ (.Tuple elts kk tpos) (.Call (.Name "enumerate" p) [e] [] pos) (numD 0 ds) μ' := ⟨fun F as σ D H R r q =>
  WI.of (pi_enumT hg hm (pa_cons peW pa_nil hs') hs) (h F as σ D H _ r fun v m D1 H1 e1 R1 k => by
    cases k with
    | tup h1 h2 =>
      rename_i a xs
      refine ⟨a, xs, rfl, sqT_mono R1.sub h1, q _ m D1 H1 e1 R1 ?_⟩
      have l := numD_len 0 ds
      refine ⟨fun i H hi s => ?_, fun H s => ⟨xs, sqT_mono s h1, by rw [l]; exact h2.len⟩, fun i H x H' hi s y => ?_⟩
      · rw [l] at hi
        obtain ⟨v, e, _⟩ := h2.at (List.getElem?_eq_getElem hi)
        exact ⟨xs, v, sqT_mono s h1, e⟩
      · obtain ⟨T, x, rfl, hT, rfl, f⟩ := y
        obtain ⟨d, e5, k⟩ := h2.at' (f xs (sqT_mono s h1))
        exact ⟨_, numD_at ds 0 i d e5, .inr ⟨T, _, _, hT, rfl, rfl, rfl, .cons (by rw [Nat.zero_add]; exact .int _) (.cons k .nil)⟩⟩)⟩
end
end Gu
end
section
set_option Elab.async false
set_option linter.all false
set_option maxRecDepth 100000
set_option maxHeartbeats 1000000
namespace Gu
open PySem PySem.Spec PyProof.Rows L2
/-! ### list comprehensions -/
structure BI where
  s : Shared
  H : Hp
  C : Addr
  cl : List (Str × Addr)
  fp : List Addr
abbrev blkX (X : Cx) (scope : Scope) (b : BI) : Cx := X.blk b.s b.H scope (compEnvC scope b.cl b.C X.env) b.fp
def picked (keep : Nat → Bool) (val : Nat → PyData) (n : Nat) : List PyData := ((List.range n).filter keep).map val
theorem picked_succ (keep : Nat → Bool) (val : Nat → PyData) (n : Nat) : picked keep val (n + 1) = picked keep val n ++ (if keep n = true then [val n] else []) := by
  unfold picked
  rw [List.range_succ, List.filter_append, List.map_append]
  cases h : keep n <;> simp [h]
theorem picked_len (keep : Nat → Bool) (val : Nat → PyData) (n : Nat) : (picked keep val n).length ≤ n := by
  unfold picked
  rw [List.length_map]
  exact Nat.le_trans (List.length_filter_le _ _) (by rw [List.length_range]; exact Nat.le_refl _)
section
variable {X : Cx} {F : Fr0} {ρ ρ' : List Slot} {μ μ1 μ2 μ3 μ' : Mem} {as more : List Addr} {σ : L2.St} {D D' H H' : Hp} {Q : VK} {s sa sb : Slot} {e a b c o tg it elt : Expr} {es ifs : List Expr} {pos p apos px : Pos} {d da db : PyData} {ds es' : List PyData} {ss : List Slot} {st rest body els : List Stmt} {P P' : Out → Prop} {i j : Nat} {x y z : Str} {scope : Scope}
theorem evf_nil : Evf X ρ μ [] true μ := ⟨fun F as σ D H Q R q => WF.of pts_nil (q.now R)⟩
theorem evf_one {k : Bool} (h : Evt X ρ μ c k μ') : Evf X ρ μ [c] k μ' := ⟨fun F as σ D H Q R q => WF.of (pts_one ptW) (h F as σ D H Q R q)⟩
/-- what an item gives: kept or not, with what value -/
structure LcAt (X : Cx) (scope : Scope) (ρ : List Slot) (j : Nat) (ifs : List Expr) (elt : Expr) (d : PyData) (μ μ' : Mem) (keep : Bool) (val : PyData) : Prop where
  ex : ∃ μ1, (∀ b, Evf (blkX X scope b) (ρ.set j (.dat d)) μ ifs keep μ1) ∧ (keep = false → μ1 = μ') ∧ (keep = true → ∀ b, Ev (blkX X scope b) (ρ.set j (.dat d)) μ1 elt (.dat val) μ')
theorem lc_main {n : Nat} {M : Nat → Mem} {keep : Nat → Bool} {val : Nat → PyData} {wi : TI} (hw : ∀ σ H R, WI X tg it σ H R → wi σ H R) (hi : Evi X ρ μ tg it ds (M 0)) (hn : ds.length = n) (hs : small n)
    (h : ∀ i d, ds[i]? = some d → LcAt X scope ρ j ifs elt d (M i) (M (i + 1)) (keep i) (val i))
    (hj : j < ρ.length) (F : Fr0) (as : List Addr) (σ : L2.St) (D H : Hp) (Q : VK) (R : Rel X.K F ρ μ as σ D H) (hσ : j < σ.length) (q : Fin X F ρ (M n) as σ D Q (.dat (.list (picked keep val n)))) :
    tLc wi (gName j) (fun σ H Q => ∀ b, WF (blkX X scope b) ifs σ H Q) (fun σ H Q => ∀ b, WE (blkX X scope b) elt σ H Q) [j] σ H Q := by
  refine hw _ _ _ (hi F as σ D H _ R fun J m D1 H1 e1 R1 w => fun L hL => ?_)
  have hLa := R1.newA hL
  have hLd := none_sub R1.sub hL
  have R2 : Rel X.K (Fr0.here D1 H1 (as ++ m)) (ρ.set j .un) (M 0) (as ++ m) (wipe σ [j]) D1 H1 := R1.in.slots fun i s e => by
    by_cases hk : i = j
    · subst hk
      rw [List.getElem?_set_self hj] at e
      exact .inl (Option.some.inj e).symm
    · rw [List.getElem?_set_ne (Ne.symm hk)] at e
      show s = .un ∨ ∃ v, (σ.set j none)[i]? = _ ∧ _
      rw [List.getElem?_set_ne (Ne.symm hk)]
      exact R1.env i s e
  refine ⟨fun i k H => k = n - i ∧ i ≤ n ∧ ∃ as2 D2 acc, Rel X.K (Fr0.here D1 H1 (as ++ m)) (ρ.set j .un) (M i) as2 (wipe σ [j]) D2 H ∧ H L = some (.lst acc) ∧ DqL X.K D2 acc (picked keep val i) ∧ L ∉ as2 ∧ D2 L = none,
    ⟨n, rfl, Nat.zero_le _, _, D1, [], R2.side hL hLa hLd, upd_same, .nil, hLa, hLd⟩, ?_⟩
  rintro i k H2 ⟨rfl, hi, as2, D2, acc, R3, hacc, hd, hla, hld⟩
  have s2 : Same D1 H2 := R3.sd.trans R3.sub
  obtain ⟨l2, rfl⟩ := R3.grown
  by_cases hl : i = n
  · subst hl
    refine .inl ⟨by rw [← hn] at *; exact w.stops _ s2, ?_⟩
    have R4 := R1.back R3
    have nL : F.H L = none := R1.newF hL
    have R5 := R4.froz nL hla hld hacc
    refine q (.ref L) (m ++ l2) _ H2 (e1.trans (R3.sd.trans (same_new hld))) (by rw [← List.append_assoc]; exact R5) ?_
    exact .lst upd_same (hd.mono' (same_new hld))
  · have hlt : i < ds.length := by omega
    refine .inr ⟨w.goes i H2 hlt s2, fun H' => ∃ as3 D3 acc, Rel X.K (Fr0.here D1 H1 (as ++ m)) (ρ.set j .un) (M (i + 1)) as3 (wipe σ [j]) D3 H' ∧ H' L = some (.lst acc) ∧ DqL X.K D3 acc (picked keep val (i + 1)) ∧ L ∉ as3 ∧ D3 L = none,
      fun H' q => ⟨n - (i + 1), by omega, rfl, by omega, q⟩, fun v H3 y => ?_⟩
    obtain ⟨d, hdat, y⟩ := w.yields i H2 v H3 hlt s2 y
    obtain ⟨μ1, f1, f2, f3⟩ := (h i d hdat).ex
    have go : ∀ {D3 : Hp}, Rel X.K (Fr0.here D1 H1 (as ++ m)) (ρ.set j .un) (M i) (as ++ m ++ l2) (wipe σ [j]) D3 H3 → Dq X.K D3 v d → H3 L = some (.lst acc) → D3 L = none → DqL X.K D3 acc (picked keep val i) →
        gName j v (wipe σ [j]) H3 (fun σ2 H2 => wipe σ2 [j] = wipe σ [j] ∧ (fun σ H Q => ∀ b, WF (blkX X scope b) ifs σ H Q) σ2 H2 fun b H3 => if b = true then (fun σ H Q => ∀ b, WE (blkX X scope b) elt σ H Q) σ2 H3 fun y H4 => ∃ acc, H4 L = some (.lst acc) ∧ acc.length < sizeLine ∧
          (∃ as3 D3 acc', Rel X.K (Fr0.here D1 H1 (as ++ m)) (ρ.set j .un) (M (i + 1)) as3 (wipe σ [j]) D3 (upd H4 L (.lst (acc ++ [y]))) ∧ (upd H4 L (.lst (acc ++ [y]))) L = some (.lst acc') ∧ DqL X.K D3 acc' (picked keep val (i + 1)) ∧ L ∉ as3 ∧ D3 L = none)
          else ∃ as3 D3 acc, Rel X.K (Fr0.here D1 H1 (as ++ m)) (ρ.set j .un) (M (i + 1)) as3 (wipe σ [j]) D3 H3 ∧ H3 L = some (.lst acc) ∧ DqL X.K D3 acc (picked keep val (i + 1)) ∧ L ∉ as3 ∧ D3 L = none) := fun {D3} R4 k4 hacc hld hd => by
      have lw : (wipe σ [j]).length = σ.length := wipe_length _ _
      have R5 : Rel X.K (Fr0.here D3 H3 (as ++ m ++ l2)) (ρ.set j (.dat d)) (M i) (as ++ m ++ l2) ((wipe σ [j]).set j (some v)) D3 H3 := by
        have z := R4.in.set (i := j) (v := v) (s := .dat d) (by rw [lw]; exact hσ) k4
        rw [List.set_set] at z
        exact z
      refine ⟨?_, fun b => f1 b _ _ _ D3 H3 _ R5 fun m5 D5 H5 e5 R5' => ?_⟩
      · show (((σ.set j none).set j (some v)).set j none) = σ.set j none
        rw [List.set_set, List.set_set]
      · have R6 := R4.back R5'
        obtain ⟨a1, a2, a3⟩ := R5'.kept hacc hla hld
        cases hk : keep i with
        | false =>
          rw [if_neg Bool.false_ne_true]
          have e6 := f2 hk
          subst e6
          refine ⟨_, D5, acc, R6, a1, ?_, a2, a3⟩
          rw [picked_succ, hk, if_neg Bool.false_ne_true, List.append_nil]
          exact hd.mono' e5
        | true =>
          rw [if_pos rfl]
          intro b2
          refine f3 hk b2 _ _ _ D5 H5 _ R5' fun u m7 D7 H7 e7 R7 k7 => ?_
          have R7' : Rel X.K (Fr0.here D3 H3 (as ++ m ++ l2)) (ρ.set j (.dat d)) (M (i + 1)) (as ++ m ++ l2 ++ (m5 ++ m7)) ((wipe σ [j]).set j (some v)) D7 H7 := by
            rw [← List.append_assoc]
            exact R7
          obtain ⟨b1, b2', b3⟩ := R7'.kept hacc hla hld
          have R8 := R4.back R7'
          have lacc : acc.length < sizeLine := by
            rw [hd.len]
            exact Nat.lt_of_le_of_lt (picked_len keep val i) (Nat.lt_of_lt_of_le (show i < n by omega) hs.line)
          refine ⟨acc, b1, lacc, _, D7, _, R8.side hL b2' b3, upd_same, ?_, b2', b3⟩
          rw [picked_succ, hk, if_pos rfl]
          exact (hd.mono' (e5.trans e7)).app (.cons k7 .nil)
    rcases y with ⟨rfl, k⟩ | ⟨T, xs, es, hT, rfl, rfl, rfl, k⟩
    · exact go R3 (k.mono' R3.sd) hacc hld hd
    · obtain ⟨R4, k4⟩ := R3.dat' hT (k.mono' R3.sd)
      have nT : L ≠ T := fun z => by
        subst z
        rw [hacc] at hT
        cases hT
      exact go R4 k4 (by rw [upd_ne nT]; exact hacc) (by rw [upd_ne nT]; exact hld) (hd.mono' (same_new (none_sub R3.sub hT)))
theorem ev_lc {n : Nat} {M : Nat → Mem} {keep : Nat → Bool} {val : Nat → PyData} (hc : X.calm = true) (hN : X.N.Nodup) (hi : Evi X ρ μ (.Name x px) it ds (M 0)) (hn : ds.length = n) (hs : small n)
    (h : ∀ i d, ds[i]? = some d → LcAt X scope ρ j ifs elt d (M i) (M (i + 1)) (keep i) (val i))
    (hj : j < ρ.length := by decide) (hx : X.N[j]? = some x := by rfl) (ok : blkC X.N X.env.scope scope [(x, j)] = true := by rfl) (hl : ∀ b, Loc (blkX X scope b).env.scope x := by first | exact fun _ => Or.inl rfl | exact fun _ => Or.inr rfl)
    (hf : ∀ b, (blkX X scope b).fn x = true ∨ (blkX X scope b).env.scope.names.lookup x = some .local := by first | exact fun _ => .inl rfl | exact fun _ => .inr rfl) (hfold : ∀ x, foldedSetIterable it X.env x = pure x := by intro _; rfl) :
    Ev X ρ μ (.ListComp elt [⟨.Name x px, it, ifs, 0⟩] scope pos) (.dat (.list (picked keep val n))) (M n) := ⟨fun F as σ D H Q R q pins s0 I =>
  WE.of (pe_lc hc hN piW (blkOk_by ok) (fun s H C cl fp => pg_name hN hx (hl ⟨s, H, C, cl, fp⟩) (hf ⟨s, H, C, cl, fp⟩)) (fun s H C cl fp => ⟨fun pins s' σ H' Q I h => (h ⟨s, H, C, cl, fp⟩) pins s' I⟩) (fun s H C cl fp => ⟨fun pins s' σ H' Q I h => (h ⟨s, H, C, cl, fp⟩) pins s' I⟩) hfold)
    (lc_main (fun _ _ _ h => h) hi hn hs h hj F as σ D H Q R (by rw [I.len]; exact (List.getElem?_eq_some_iff.mp hx).1) q) pins s0 I⟩
/-- y = [..] -/
theorem ws_setLc {n : Nat} {M : Nat → Mem} {keep : Nat → Bool} {val : Nat → PyData} {py spos : Pos} (hc : X.calm = true) (hN : X.N.Nodup) (hi : Evi X ρ μ (.Name x px) it ds (M 0)) (hn : ds.length = n) (hs : small n)
    (h : ∀ i d, ds[i]? = some d → LcAt X scope ρ j ifs elt d (M i) (M (i + 1)) (keep i) (val i)) (k : Ws X rest (ρ.set i (.dat (.list (picked keep val n)))) (M n) P)
    (hsw : swapsWith (.ListComp elt [⟨.Name x px, it, ifs, 0⟩] scope pos) (some (.Name y py)) spos.line X.env = pure true)
    (hj : j < ρ.length := by decide) (hx : X.N[j]? = some x := by rfl) (hy : X.N[i]? = some y := by rfl) (hyl : X.env.scope.names.lookup y = some .local := by rfl) (ok : blkC X.N X.env.scope scope [(x, j)] = true := by rfl) (hl : ∀ b, Loc (blkX X scope b).env.scope x := by first | exact fun _ => Or.inl rfl | exact fun _ => Or.inr rfl)
    (hf : ∀ b, (blkX X scope b).fn x = true ∨ (blkX X scope b).env.scope.names.lookup x = some .local := by first | exact fun _ => .inl rfl | exact fun _ => .inr rfl) (hfold : ∀ x, foldedSetIterable it X.env x = pure x := by intro _; rfl) :
    Ws X (.Assign [.Name y py] (.ListComp elt [⟨.Name x px, it, ifs, 0⟩] scope pos) spos :: rest) ρ μ P := ⟨fun F as σ D H R pins s0 I =>
  WB.of (pss_cons (ps_setLc (tt := fun σ H Q => ∀ b, WF (blkX X scope b) ifs σ H Q) (te := fun σ H Q => ∀ b, WE (blkX X scope b) elt σ H Q) hc hN hy hyl hsw piW (blkOk_by ok) (fun s H C cl fp => pg_name hN hx (hl ⟨s, H, C, cl, fp⟩) (hf ⟨s, H, C, cl, fp⟩)) (fun s H C cl fp => ⟨fun pins s' σ H' Q I h => (h ⟨s, H, C, cl, fp⟩) pins s' I⟩) (fun s H C cl fp => ⟨fun pins s' σ H' Q I h => (h ⟨s, H, C, cl, fp⟩) pins s' I⟩) hfold) pbW)
    (lc_main (fun _ _ _ h => h) hi hn hs h hj F as σ D H _ R (by rw [I.len]; exact (List.getElem?_eq_some_iff.mp hx).1) (fun v m D1 H1 e1 R1 kv => k F _ _ D1 H1 (R1.set (by rw [I.len]; exact (List.getElem?_eq_some_iff.mp hy).1) kv))) pins s0 I⟩
end
end Gu
end
section
set_option Elab.async false
set_option linter.all false
set_option maxRecDepth 100000
set_option maxHeartbeats 1000000
namespace Gu
open PySem PySem.Spec PyProof.Rows L2
/-! ### a def's body: its context, its end -/
structure Gv where
  P : Program
  w : World
  K : PySem.W.Frag
  mg : Str → Option Value
  base : Heap
structure Bi where
  f : Addr
  cdv : Value
  A : Around
  outer : List Env
  s : Shared
  H : Hp
  E : XK
abbrev bX (G : Gv) (N : List Str) (qual : Str) (scope : Scope) (i : Bi) : Cx := (cxOf CX0 G.P G.w G.K G.mg G.base N qual scope i.f i.cdv i.A i.outer i.s i.H i.E).nox
theorem bX_own {G : Gv} {N : List Str} {qual : Str} {scope : Scope} {i : Bi} : PassesOwn (model (bX G N qual scope i).prog (bX G N qual scope i).w) (bX G N qual scope i).A (bX G N qual scope i).env (bX G N qual scope i).xe := PassesOwn.never
def slots0 (N : List Str) (ss : List Slot) : List Slot := ss ++ List.replicate (N.length - ss.length) .un
def gives (d : PyData) : Out → Prop
  | .rt s _ => s = .dat d
  | .nx _ _ => d = .none
/-- a list of one's own may become data at the end -/
def givesL (d : PyData) : Out → Prop
  | .rt s μ => s = .dat d ∨ ∃ j ds, s = .mut j ∧ μ[j]? = some ds ∧ d = .list ds
  | .nx _ _ => d = .none
def givesV (d : PyData) (ms : List PyData) : Out → Prop
  | .rt s μ => s = .dat d ∧ μ[0]? = some ms
  | .nx _ _ => False
def givesN (ms : List PyData) : Out → Prop
  | .rt s μ => ∃ j, s = .mut j ∧ μ[j]? = some ms
  | .nx _ _ => False
theorem rel_start {K : PySem.W.Frag} {N : List Str} {D H : Hp} {ss : List Slot} {vs : List V} {μ : Mem} {as : List Addr} (hs : Same D H) (hv : VOks K D as vs ss) (hl : as.length = μ.length) (hm : ∀ (j : Nat) (a : Addr) (ds : List PyData), as[j]? = some a → μ[j]? = some ds → ∃ xs, H a = some (.lst xs) ∧ DqL K D xs ds)
    (hn : as.Nodup) (ho : ∀ a, a ∈ as → D a = none) : Rel K (Fr0.here D H as) (slots0 N ss) μ as (start N vs) D H where
  sub := hs
  sd := Same.refl _
  env := by
    have lem : ∀ (vs : List V) (ss : List Slot), VOks K D as vs ss → vs.length = ss.length ∧ ∀ (i : Nat) (s : Slot), ss[i]? = some s → ∃ v, vs[i]? = some v ∧ VOk K D as v s := by
      intro vs
      induction vs with
      | nil =>
        intro ss h
        cases ss with
        | nil => exact ⟨rfl, fun i s e => by simp at e⟩
        | cons => exact h.elim
      | cons v vs ih =>
        intro ss h
        cases ss with
        | nil => exact h.elim
        | cons s ss =>
          obtain ⟨h1, h2⟩ := h
          obtain ⟨l, f⟩ := ih ss h2
          refine ⟨congrArg Nat.succ l, fun i z e => ?_⟩
          cases i with
          | zero =>
            cases e
            exact ⟨v, rfl, h1⟩
          | succ i => exact f i z (by simpa using e)
    obtain ⟨l, f⟩ := lem vs ss hv
    intro i s e
    unfold slots0 at e
    by_cases hi : i < ss.length
    · rw [List.getElem?_append_left hi] at e
      obtain ⟨v, e2, k⟩ := f i s e
      refine .inr ⟨v, ?_, k⟩
      unfold L2.start
      rw [List.getElem?_append_left (by rw [List.length_map]; omega), List.getElem?_map, e2]
      rfl
    · rw [List.getElem?_append_right (by omega), List.getElem?_replicate] at e
      split at e
      · exact .inl (Option.some.inj e).symm
      · cases e
  len := hl
  mem := hm
  nd := hn
  out := ho
  own := ⟨[], by simp [Fr0.here], fun _ h => by cases h⟩
  frame := fun _ _ e _ => e
  fresh := fun b o e => .inl ⟨o, e⟩
theorem fnsc {N P : List Str} {sc : Scope} (h : (decide (sc.kind = .function) && !sc.isCoroutine && !sc.isGenerator && decide N.Nodup && decide (N.take P.length = P) && P.all (fun x => decide (sc.names.lookup x = some .local) || decide (sc.names.lookup x = some .cell)) && sc.names.all (fun y => !decide (y.2 = .free))) = true) : FnScope N P sc := by
  simp only [Bool.and_eq_true, Bool.not_eq_true', decide_eq_true_eq, List.all_eq_true, Bool.or_eq_true, decide_eq_false_iff_not] at h
  obtain ⟨⟨⟨⟨⟨⟨h1, h2⟩, h3⟩, h4⟩, h5⟩, h6⟩, h7⟩ := h
  exact ⟨h1, h2, h3, h4, h5, h6, h7⟩
theorem ev_v {X : Cx} {ρ : List Slot} {μ : Mem} {s : Slot} {x : Str} {pos : Pos} (i : Nat) (h : ρ[i]? = some s := by rfl) (hs : s ≠ .un := by intro z; cases z) (hN : X.N[i]? = some x := by rfl) (hv : Vis X.env.scope x := by first | exact Or.inl rfl | exact Or.inr (Or.inl rfl) | exact Or.inr (Or.inr rfl))
    (hd : (x == ("__debug__" : Str)) = false := by decide) (hcd : (x == ("__classdict__" : Str)) = false := by decide) : Ev X ρ μ (.Name x pos) s μ := ev_var h hs hN hv hd hcd
section
variable {G : Gv} {x qual : Str} {params : Arguments} {body : List Stmt} {scope : Scope} {f : Addr} {fd : FuncData} {N ps : List Str} {k : Nat}
theorem Rel.new {K : PySem.W.Frag} {D H D' H' : Hp} {e as : List Addr} {ρ : List Slot} {μ : Mem} {σ : L2.St} (r : Rel K (Fr0.here D H e) ρ μ as σ D' H') : New D H D' := fun b o h => r.fresh b o h
theorem voks_of {K : PySem.W.Frag} {D : Hp} {as : List Addr} : ∀ {vs : List V} {ds : List PyData}, DqL K D vs ds → VOks K D as vs (ds.map Slot.dat)
  | _, [], h => by cases h; trivial
  | _, d :: ds, h => by cases h with | cons h q => exact ⟨h, voks_of q⟩
/-- a def from data to data -/
theorem fn_dat {post : List PyData → PyData → Prop} (F : FunD G.K x qual params body scope [] [] f fd) (S : FnScope N ps scope) (hl : ∀ ds d, post ds d → ds.length = ps.length)
    (hb : ∀ (i : Bi) (ds : List PyData) (d : PyData), N.Nodup → Room k (bX G N qual scope i).A → post ds d → Ws (bX G N qual scope i) body (slots0 N (ds.map .dat)) [] (givesL d)) : FnOk G.P G.w G.K G.mg G.base CX0 (k + 1) f fd ps (spD G.K post) := by
  refine F.ok S (fun vs H Q E ⟨D, ds, d, _, q, p, _⟩ => by rw [q.len]; exact hl ds d p) fun cdv A outer s H vs Q E hr ⟨D, ds, d, hs, q, p, fin⟩ => ?_
  refine ⟨WB (bX G N qual scope ⟨f, cdv, A, outer, s, H, E⟩) body, PSs.nox pbW, ?_⟩
  have R := rel_start (K := G.K) (N := N) (μ := []) (as := []) hs (voks_of q) rfl (fun j a ds h => by simp at h) List.nodup_nil (fun a h => by cases h)
  refine WB.mono (hb ⟨f, cdv, A, outer, s, H, E⟩ ds d S.nd hr p _ [] _ D H R) ?_ ?_ (fun _ _ h => h) fun _ _ h => h
  · rintro σ H' ⟨ρ, μ, as, D', hp, r⟩
    have hd : d = .none := hp
    subst hd
    exact fin _ D' H' r.sd r.sub (fun b o h => r.frame b o h (by simp [Fr0.here])) r.new .non
  · rintro v H' ⟨z, ρ, μ, as, σ, D', hp, r, kv⟩
    rcases hp with hd | ⟨j, es, rfl, hj, rfl⟩
    · subst hd
      exact fin v D' H' r.sd r.sub (fun b o h => r.frame b o h (by simp [Fr0.here])) r.new kv
    · obtain ⟨b, hb, rfl⟩ := kv
      obtain ⟨xs, h1, h2⟩ := r.mem j b es hb hj
      have hm := List.mem_of_getElem? hb
      have n0 := r.out b hm
      obtain ⟨l, e, fl⟩ := r.own
      have e2 : as = l := e
      subst e2
      refine fin _ (upd D' b (.lst xs)) H' (r.sd.trans (same_new n0)) (fun c o h => ?_) (fun b o h => r.frame b o h (by simp [Fr0.here])) (fun c o h => ?_) (.lst upd_same (h2.mono' (same_new n0)))
      · by_cases hc : c = b
        · subst hc
          rw [upd_same] at h
          rw [h1]
          exact h
        · rw [upd_ne hc] at h
          exact r.sub c o h
      · by_cases hc : c = b
        · subst hc
          exact .inr (fl c hm)
        · rw [upd_ne hc] at h
          exact r.new c o h
/-- a def whose first argument is a list that it changes -/
theorem fn_vat {post : List PyData → List PyData → PyData → List PyData → Prop} (F : FunD G.K x qual params body scope [] [] f fd) (S : FnScope N ps scope) (hl : ∀ ms ds d ms', post ms ds d ms' → ds.length + 1 = ps.length)
    (hb : ∀ (i : Bi) (ms ds : List PyData) (d : PyData) (ms' : List PyData), N.Nodup → Room k (bX G N qual scope i).A → post ms ds d ms' → Ws (bX G N qual scope i) body (slots0 N (.mut 0 :: ds.map .dat)) [ms] (givesV d ms')) : FnOk G.P G.w G.K G.mg G.base CX0 (k + 1) f fd ps (spV G.K post) := by
  refine F.ok S (fun vs H Q E ⟨D, a, vs', xs, ms, ds, d, ms', e, _, _, _, _, q, p, _⟩ => by rw [e, List.length_cons, q.len]; exact hl ms ds d ms' p) fun cdv A outer s H vs Q E hr ⟨D, a, vs', xs, ms, ds, d, ms', e, ha, hd, hx, hs, q, p, fin⟩ => ?_
  subst e
  refine ⟨WB (bX G N qual scope ⟨f, cdv, A, outer, s, H, E⟩) body, PSs.nox pbW, ?_⟩
  have R := rel_start (K := G.K) (N := N) (ss := .mut 0 :: ds.map .dat) (vs := .ref a :: vs') (μ := [ms]) (as := [a]) hs ⟨⟨a, rfl, rfl⟩, voks_of q⟩ rfl (fun j b es h h2 => by
    cases j with
    | zero =>
      cases h
      cases h2
      exact ⟨xs, ha, hx⟩
    | succ j => simp at h) (by simp) (fun b h => by
    rw [List.mem_singleton] at h
    subst h
    exact hd)
  refine WB.mono (hb ⟨f, cdv, A, outer, s, H, E⟩ ms ds d ms' S.nd hr p _ [a] _ D H R) ?_ ?_ (fun _ _ h => h) fun _ _ h => h
  · rintro σ H' ⟨ρ, μ, as, D', hp, r⟩
    exact False.elim hp
  · rintro v H' ⟨z, ρ, μ, as, σ, D', hp, r, kv⟩
    have hd : z = .dat d ∧ μ[0]? = some ms' := hp
    obtain ⟨rfl, h0⟩ := hd
    obtain ⟨l, rfl⟩ := r.grown
    obtain ⟨xs', h1, h2⟩ := r.mem 0 a ms' rfl h0
    exact fin v D' H' xs' r.sd r.sub (fun b o hb h => r.frame b o h (by simpa [Fr0.here] using hb)) r.new (r.out a (by simp)) h1 h2 kv
/-- a def from the script and data to a new list of one's own -/
theorem fn_new {post : List Int → List PyData → List PyData → Prop} (F : FunD G.K x qual params body scope [] [] f fd) (S : FnScope N ps scope) (hl : ∀ ns ds ms, post ns ds ms → ds.length + 1 = ps.length)
    (hb : ∀ (i : Bi) (ns : List Int) (ds ms : List PyData), N.Nodup → Room k (bX G N qual scope i).A → post ns ds ms → Ws (bX G N qual scope i) body (slots0 N (.scr ns :: ds.map .dat)) [] (givesN ms)) : FnOk G.P G.w G.K G.mg G.base CX0 (k + 1) f fd ps (spN G.K post) := by
  refine F.ok S (fun vs H Q E ⟨D, a, vs', ns, ds, ms, e, _, _, q, p, _⟩ => by rw [e, List.length_cons, q.len]; exact hl ns ds ms p) fun cdv A outer s H vs Q E hr ⟨D, a, vs', ns, ds, ms, e, hq, hs, q, p, fin⟩ => ?_
  subst e
  refine ⟨WB (bX G N qual scope ⟨f, cdv, A, outer, s, H, E⟩) body, PSs.nox pbW, ?_⟩
  have R := rel_start (K := G.K) (N := N) (ss := .scr ns :: ds.map .dat) (vs := .ref a :: vs') (μ := []) (as := []) hs ⟨⟨a, rfl, hq⟩, voks_of q⟩ rfl (fun j a ds h => by simp at h) List.nodup_nil (fun a h => by cases h)
  refine WB.mono (hb ⟨f, cdv, A, outer, s, H, E⟩ ns ds ms S.nd hr p _ [] _ D H R) ?_ ?_ (fun _ _ h => h) fun _ _ h => h
  · rintro σ H' ⟨ρ, μ, as, D', hp, r⟩
    exact False.elim hp
  · rintro v H' ⟨z, ρ, μ, as, σ, D', hp, r, kv⟩
    obtain ⟨j, rfl, hj⟩ : ∃ j, z = .mut j ∧ μ[j]? = some ms := hp
    obtain ⟨b, hb, rfl⟩ := kv
    obtain ⟨xs, h1, h2⟩ := r.mem j b ms hb hj
    have hm := List.mem_of_getElem? hb
    obtain ⟨l, e, fl⟩ := r.own
    have e2 : as = l := e
    subst e2
    exact fin b D' H' xs r.sd r.sub (fun b o h => r.frame b o h (by simp [Fr0.here])) r.new (fl b hm) (r.out b hm) h1 h2
/-- a def from the script and data to data -/
theorem fn_scr {post : List Int → List PyData → PyData → Prop} (F : FunD G.K x qual params body scope [] [] f fd) (S : FnScope N ps scope) (hl : ∀ ns ds d, post ns ds d → ds.length + 1 = ps.length)
    (hb : ∀ (i : Bi) (ns : List Int) (ds : List PyData) (d : PyData), N.Nodup → Room k (bX G N qual scope i).A → post ns ds d → Ws (bX G N qual scope i) body (slots0 N (.scr ns :: ds.map .dat)) [] (gives d)) : FnOk G.P G.w G.K G.mg G.base CX0 (k + 1) f fd ps (spS G.K post) := by
  refine F.ok S (fun vs H Q E ⟨D, a, vs', ns, ds, d, e, _, _, q, p, _⟩ => by rw [e, List.length_cons, q.len]; exact hl ns ds d p) fun cdv A outer s H vs Q E hr ⟨D, a, vs', ns, ds, d, e, hq, hs, q, p, fin⟩ => ?_
  subst e
  refine ⟨WB (bX G N qual scope ⟨f, cdv, A, outer, s, H, E⟩) body, PSs.nox pbW, ?_⟩
  have R := rel_start (K := G.K) (N := N) (ss := .scr ns :: ds.map .dat) (vs := .ref a :: vs') (μ := []) (as := []) hs ⟨⟨a, rfl, hq⟩, voks_of q⟩ rfl (fun j a ds h => by simp at h) List.nodup_nil (fun a h => by cases h)
  refine WB.mono (hb ⟨f, cdv, A, outer, s, H, E⟩ ns ds d S.nd hr p _ [] _ D H R) ?_ ?_ (fun _ _ h => h) fun _ _ h => h
  · rintro σ H' ⟨ρ, μ, as, D', hp, r⟩
    have hd : d = .none := hp
    subst hd
    exact fin _ D' H' r.sd r.sub (fun b o h => r.frame b o h (by simp [Fr0.here])) r.new .non
  · rintro v H' ⟨z, ρ, μ, as, σ, D', hp, r, kv⟩
    have hd : z = .dat d := hp
    subst hd
    exact fin v D' H' r.sd r.sub (fun b o h => r.frame b o h (by simp [Fr0.here])) r.new kv
end
/-! ### calls that change a list, that give one -/
section
variable {X : Cx} {ρ : List Slot} {μ μ' : Mem} {e : Expr} {es : List Expr} {pos p : Pos} {d : PyData} {ds : List PyData} {k j : Nat} {x : Str}
theorem voks_cons {K : PySem.W.Frag} {D : Hp} {as : List Addr} {vs : List V} {s : Slot} {ss : List Slot} (h : VOks K D as vs (s :: ss)) : ∃ v us, vs = v :: us ∧ VOk K D as v s ∧ VOks K D as us ss := by
  match vs, h with
  | v :: us, ⟨h1, h2⟩ => exact ⟨v, us, rfl, h1, h2⟩
theorem ev_callV {post : List PyData → List PyData → PyData → List PyData → Prop} {ms ms' : List PyData} (G : Def X.prog X.w X.K X.mg X.base x k (spV X.K post)) (hr : Room k X.A) (ha : Eva X ρ μ (e :: es) (.mut j :: ds.map .dat) μ') (hj : μ'[j]? = some ms) (hp : post ms ds d ms') (hg : Gl X x := by rfl) (hdb : (x == ("__debug__" : Str)) = false := by decide)
    (he : starEach (e :: es) X.env = (false, eval e X.env) :: starEach es X.env := by rfl) (hpl : (backTo pos (starEach es X.env)).any (·.1) = false := by rfl) : Ev X ρ μ (.Call (.Name x p) (e :: es) [] pos) (.dat d) (μ'.set j ms') := ⟨fun F as σ D H Q R q => by
  obtain ⟨f, fd, ps, G, hm, hk, hb⟩ := G.ex
  refine WE.of (pe_call G hr hg hm hk hb .nil pass0 paW hdb he hpl) (ha F as σ D H _ R fun vs m D1 H1 e1 R1 k1 => ?_)
  rw [List.append_nil]
  obtain ⟨v, us, rfl, ⟨a, haj, rfl⟩, k2⟩ := voks_cons k1
  obtain ⟨xs, hx, hq⟩ := R1.mem j a ms haj hj
  exact ⟨D1, a, us, xs, ms, ds, d, ms', rfl, hx, R1.out a (List.mem_of_getElem? haj), hq, R1.sub, voks_dq k2, hp, fun v D2 H2 xs' e2 e3 e4 n n2 h' hq' k3 =>
    (q.after e1).after e2 v [] D2 H2 (Same.refl _) (by rw [List.append_nil, List.append_nil]; exact R1.callV haj e2 e3 e4 n h' hq') (VOk.nil (VOk.nil k3))⟩⟩
theorem ev_callN {post : List Int → List PyData → List PyData → Prop} {ns : List Int} {ms : List PyData} (G : Def X.prog X.w X.K X.mg X.base x k (spN X.K post)) (hr : Room k X.A) (ha : Eva X ρ μ (e :: es) (.scr ns :: ds.map .dat) μ') (hp : post ns ds ms) (hg : Gl X x := by rfl) (hdb : (x == ("__debug__" : Str)) = false := by decide)
    (he : starEach (e :: es) X.env = (false, eval e X.env) :: starEach es X.env := by rfl) (hpl : (backTo pos (starEach es X.env)).any (·.1) = false := by rfl) : Ev X ρ μ (.Call (.Name x p) (e :: es) [] pos) (.mut μ'.length) (μ' ++ [ms]) := ⟨fun F as σ D H Q R q => by
  obtain ⟨f, fd, ps, G, hm, hk, hb⟩ := G.ex
  refine WE.of (pe_call G hr hg hm hk hb .nil pass0 paW hdb he hpl) (ha F as σ D H _ R fun vs m D1 H1 e1 R1 k1 => ?_)
  rw [List.append_nil]
  obtain ⟨v, us, rfl, ⟨a, rfl, ha2⟩, k2⟩ := voks_cons k1
  refine ⟨D1, a, us, ns, ds, ms, rfl, ha2, R1.sub, voks_dq k2, hp, fun b D2 H2 xs e2 e3 e4 n n1 n2 h' hq' => ?_⟩
  have R2 := R1.call e2 e3 e4 n
  refine (q.after (more := m) (e1.trans e2)) (.ref b) [b] D2 H2 (Same.refl _) ?_ ⟨b, ?_, rfl⟩
  · refine ⟨R2.sub, R2.sd, fun i s h => (R2.env i s h).imp id fun ⟨v, q, k⟩ => ⟨v, q, k.mono (Same.refl _)⟩, by simp only [List.length_append, List.length_singleton]; rw [← R2.len, List.length_append], fun i c es h1 h2 => ?_, ?_, fun c hc => ?_, ?_, R2.frame, R2.fresh⟩
    · have hl := R2.len
      by_cases hi : i < (as ++ m).length
      · rw [List.getElem?_append_left hi] at h1
        rw [List.getElem?_append_left (by omega)] at h2
        exact R2.mem i c es h1 h2
      · have i0 : i = (as ++ m).length := by
          have := (List.getElem?_eq_some_iff.mp h1).1
          rw [List.length_append, List.length_singleton] at this
          omega
        subst i0
        rw [List.getElem?_append_right (Nat.le_refl _), Nat.sub_self] at h1
        rw [hl, List.getElem?_append_right (Nat.le_refl _), Nat.sub_self] at h2
        have e5 : b = c := Option.some.inj h1
        have e6 : ms = es := Option.some.inj h2
        subst e5 e6
        exact ⟨xs, h', hq'⟩
    · rw [List.nodup_append]
      refine ⟨R2.nd, by simp, fun c hc c2 hc2 e => ?_⟩
      rw [List.mem_singleton] at hc2
      subst hc2
      subst e
      exact R1.newA n1 hc
    · rcases List.mem_append.mp hc with hc | hc
      · exact R2.out c hc
      · rw [List.mem_singleton] at hc
        subst hc
        exact n2
    · obtain ⟨l, e5, f5⟩ := R2.own
      refine ⟨l ++ [b], by rw [e5, List.append_assoc], fun c hc => ?_⟩
      rcases List.mem_append.mp hc with hc | hc
      · exact f5 c hc
      · rw [List.mem_singleton] at hc
        subst hc
        exact R1.newF n1
  · rw [← R2.len, List.getElem?_append_right (Nat.le_refl _), Nat.sub_self]
    rfl⟩
theorem ev_callS {post : List Int → List PyData → PyData → Prop} {ns : List Int} (G : Def X.prog X.w X.K X.mg X.base x k (spS X.K post)) (hr : Room k X.A) (ha : Eva X ρ μ (e :: es) (.scr ns :: ds.map .dat) μ') (hp : post ns ds d) (hg : Gl X x := by rfl) (hdb : (x == ("__debug__" : Str)) = false := by decide)
    (he : starEach (e :: es) X.env = (false, eval e X.env) :: starEach es X.env := by rfl) (hpl : (backTo pos (starEach es X.env)).any (·.1) = false := by rfl) : Ev X ρ μ (.Call (.Name x p) (e :: es) [] pos) (.dat d) μ' := ⟨fun F as σ D H Q R q => by
  obtain ⟨f, fd, ps, G, hm, hk, hb⟩ := G.ex
  refine WE.of (pe_call G hr hg hm hk hb .nil pass0 paW hdb he hpl) (ha F as σ D H _ R fun vs m D1 H1 e1 R1 k1 => ?_)
  rw [List.append_nil]
  obtain ⟨v, us, rfl, ⟨a, rfl, ha2⟩, k2⟩ := voks_cons k1
  exact ⟨D1, a, us, ns, ds, d, rfl, ha2, R1.sub, voks_dq k2, hp, fun v D2 H2 e2 e3 e4 n k3 => (q.after e1).after e2 v [] D2 H2 (Same.refl _) (by rw [List.append_nil, List.append_nil]; exact R1.call e2 e3 e4 n) (VOk.nil (VOk.nil k3))⟩⟩
end
end Gu
end
section
set_option Elab.async false
set_option linter.all false
set_option maxRecDepth 100000
set_option maxHeartbeats 1000000
namespace Gu
open PySem PySem.Spec PyProof.Rows L2
/-! ### maps, filters -/
theorem filter_range_map {α β : Type} (l : List α) (kp : α → Bool) (f : α → β) (keep : Nat → Bool) (val : Nat → β) (h : ∀ i a, l[i]? = some a → keep i = kp a ∧ val i = f a) : ((List.range l.length).filter keep).map val = (l.filter kp).map f := by
  induction l generalizing keep val with
  | nil => rfl
  | cons a l ih =>
    rw [List.length_cons, List.range_succ_eq_map, List.filter_cons, List.filter_cons]
    obtain ⟨h1, h2⟩ := h 0 a rfl
    have z := ih (fun i => keep (i + 1)) (fun i => val (i + 1)) fun i b e => h (i + 1) b (by simpa using e)
    have y : ((List.map Nat.succ (List.range l.length)).filter keep).map val = ((List.range l.length).filter fun i => keep (i + 1)).map fun i => val (i + 1) := by
      rw [List.filter_map, List.map_map]
      rfl
    rw [h1]
    cases kp a with
    | true => simp only [if_true, List.map_cons, h2]; rw [y, z]
    | false => simp only [Bool.false_eq_true, if_false]; rw [y, z]
section
variable {X : Cx} {F : Fr0} {ρ ρ' : List Slot} {μ μ1 μ2 μ3 μ' : Mem} {s sa sb : Slot} {e a b c o tg it elt : Expr} {es ifs : List Expr} {pos p apos px : Pos} {d da db : PyData} {ds es' : List PyData} {ss : List Slot} {st rest body els : List Stmt} {P P' : Out → Prop} {i j : Nat} {x y z : Str} {scope : Scope}
theorem ev_lcFilter {α : Type} {l : List α} {g f : α → PyData} {kp : α → Bool} (hc : X.calm = true) (hN : X.N.Nodup) (hi : Evi X ρ μ (.Name x px) it (l.map g) μ1) (hs : small l.length)
    (h : ∀ u, u ∈ l → (∀ b, Evf (blkX X scope b) (ρ.set j (.dat (g u))) μ1 ifs (kp u) μ1) ∧ (kp u = true → ∀ b, Ev (blkX X scope b) (ρ.set j (.dat (g u))) μ1 elt (.dat (f u)) μ1))
    (hj : j < ρ.length := by exact Nat.lt_of_sub_eq_succ rfl) (hx : X.N[j]? = some x := by rfl) (ok : blkC X.N X.env.scope scope [(x, j)] = true := by rfl) (hl : ∀ b, Loc (blkX X scope b).env.scope x := by first | exact fun _ => Or.inl rfl | exact fun _ => Or.inr rfl)
    (hf : ∀ b, (blkX X scope b).fn x = true ∨ (blkX X scope b).env.scope.names.lookup x = some .local := by first | exact fun _ => .inl rfl | exact fun _ => .inr rfl) (hfold : ∀ x, foldedSetIterable it X.env x = pure x := by intro _; rfl) :
    Ev X ρ μ (.ListComp elt [⟨.Name x px, it, ifs, 0⟩] scope pos) (.dat (.list ((l.filter kp).map f))) μ1 := by
  cases l with
  | nil => exact ev_lc (n := 0) (M := fun _ => μ1) (keep := fun _ => false) (val := fun _ => .none) hc hN hi rfl hs (fun i d e => by simp at e) hj hx ok hl hf hfold
  | cons u0 l0 =>
    have e : (((u0 :: l0).filter kp).map f) = picked (fun i => kp ((u0 :: l0).getD i u0)) (fun i => f ((u0 :: l0).getD i u0)) (u0 :: l0).length := by
      unfold picked
      refine (filter_range_map (u0 :: l0) kp f _ _ fun i u e => ?_).symm
      rw [List.getD_eq_getElem?_getD, e]
      exact ⟨rfl, rfl⟩
    rw [e]
    refine ev_lc (M := fun _ => μ1) hc hN hi (List.length_map _) hs (fun i d e => ?_) hj hx ok hl hf hfold
    rw [List.getElem?_map] at e
    cases q : (u0 :: l0)[i]? with
    | none => rw [q] at e; cases e
    | some u =>
      rw [q] at e
      have e2 : g u = d := Option.some.inj e
      subst e2
      obtain ⟨h1, h2⟩ := h u (List.mem_of_getElem? q)
      have e3 : (u0 :: l0).getD i u0 = u := by rw [List.getD_eq_getElem?_getD, q]; rfl
      rw [e3]
      exact ⟨μ1, h1, fun _ => rfl, h2⟩
theorem ev_lcMap {α : Type} {l : List α} {g f : α → PyData} (hc : X.calm = true) (hN : X.N.Nodup) (hi : Evi X ρ μ (.Name x px) it (l.map g) μ1) (hs : small l.length)
    (h : ∀ u, u ∈ l → ∀ b, Ev (blkX X scope b) (ρ.set j (.dat (g u))) μ1 elt (.dat (f u)) μ1)
    (hj : j < ρ.length := by exact Nat.lt_of_sub_eq_succ rfl) (hx : X.N[j]? = some x := by rfl) (ok : blkC X.N X.env.scope scope [(x, j)] = true := by rfl) (hl : ∀ b, Loc (blkX X scope b).env.scope x := by first | exact fun _ => Or.inl rfl | exact fun _ => Or.inr rfl)
    (hf : ∀ b, (blkX X scope b).fn x = true ∨ (blkX X scope b).env.scope.names.lookup x = some .local := by first | exact fun _ => .inl rfl | exact fun _ => .inr rfl) (hfold : ∀ x, foldedSetIterable it X.env x = pure x := by intro _; rfl) :
    Ev X ρ μ (.ListComp elt [⟨.Name x px, it, [], 0⟩] scope pos) (.dat (.list (l.map f))) μ1 := by
  have z := ev_lcFilter (l := l) (g := g) (f := f) (kp := fun _ => true) (ifs := []) (elt := elt) (scope := scope) (pos := pos) hc hN hi hs (fun u hu => ⟨fun b => evf_nil, fun _ => h u hu⟩) hj hx ok hl hf hfold
  have e : l.filter (fun _ => true) = l := List.filter_eq_self.mpr fun _ _ => rfl
  rw [e] at z
  exact z
/-! ### ranges of naturals -/
def natD (i : Nat) : PyData := .int (i : Nat)
theorem rngD_nat (lo n : Nat) : rngD (lo : Int) n = (List.range n).map fun i => natD (lo + i) := by
  unfold rngD
  refine List.map_congr_left fun i _ => ?_
  show PyData.int ((lo : Int) + (i : Nat)) = PyData.int ((lo + i : Nat) : Int)
  rw [Int.natCast_add]
theorem evi_n1 {n : Nat} (hm : X.mg "range" = none) (hn : n ≤ 100000) (h : Ev X ρ μ a (.dat (.int (n : Nat))) μ') (hg : Gl X "range" := by rfl) (hs : starEach [a] X.env = [(false, eval a X.env)] := by rfl)
    (hs' : starEach [a] X.env = (false, eval a X.env) :: starEach [] X.env := by rfl) : Evi X ρ μ tg (.Call (.Name "range" p) [a] [] pos) ((List.range n).map natD) μ' := by
  have z := evi_r1 (tg := tg) (p := p) (pos := pos) hm h (by omega) (by omega) hg hs hs'
  rw [Int.toNat_natCast] at z
  have e := rngD_nat 0 n
  simp only [Nat.zero_add] at e
  have e2 : rngD 0 n = (List.range n).map natD := e
  rw [e2] at z
  exact z
theorem evi_n2 {l n : Nat} (hm : X.mg "range" = none) (hl : l ≤ 100000) (hn : n ≤ 100000) (h : Ev X ρ μ a (.dat (.int (l : Nat))) μ1) (h' : Ev X ρ μ1 b (.dat (.int (n : Nat))) μ') (hg : Gl X "range" := by rfl) (hs : starEach [a, b] X.env = [(false, eval a X.env), (false, eval b X.env)] := by rfl)
    (hs2 : starEach [b] X.env = [(false, eval b X.env)] := by rfl) (hs' : starEach [a, b] X.env = (false, eval a X.env) :: starEach [b] X.env := by rfl) (hs3 : starEach [b] X.env = (false, eval b X.env) :: starEach [] X.env := by rfl) :
    Evi X ρ μ tg (.Call (.Name "range" p) [a, b] [] pos) ((List.range (n - l)).map fun i => natD (l + i)) μ' := by
  have z := evi_r2 (tg := tg) (p := p) (pos := pos) hm h h' (by omega) (by omega) (by omega) (by omega) hg hs hs2 hs' hs3
  have e : ((n : Int) - (l : Int)).toNat = n - l := by omega
  rw [e, rngD_nat] at z
  exact z
/-! ### places by naturals -/
theorem ev_ixK {α : Type} {l : List α} {g : α → PyData} {u : α} {k : Nat} (h : Seqs μ2 s (l.map g)) (ha : Ev X ρ μ a s μ1) (hb : Ev X ρ μ1 b (.dat (.int (k : Nat))) μ2) (hd : l[k]? = some u) (hp : PlainIx b := by intro _ _; rfl) : Ev X ρ μ (.Subscript a b pos) (.dat (g u)) μ2 :=
  ev_ixS h ha hb (by rw [Int.toNat_natCast, List.getElem?_map, hd]; rfl) (by omega) hp
/-! ### index, as a method -/
variable {cpos : Pos} {ns : List Int}
theorem ev_lindex {k : Int} (ho : Ev X ρ μ o (.dat (.list (ns.map PyData.int))) μ1) (ha : Ev X ρ μ1 e (.dat (.int k)) μ2) (hk : k ∈ ns)
    (hbase : attributeBase o "index" X.env (eval o X.env) = eval o X.env := by rfl)
    (hfew : ((backTo cpos (starEach (e :: []) X.env)).all (fun x => !x.1) && (backToKw cpos (keywordEach [] X.env)).all (fun x => x.1.isSome)
      && decide ((e :: []).length + ([] : List Keyword).length + (if ([] : List Keyword).isEmpty then 0 else 1) < 30)) = true := by rfl)
    (hline : (apos.endLine == cpos.line) = true := by rfl) (hs : starEach (e :: []) X.env = (false, eval e X.env) :: starEach [] X.env := by rfl) (hplain : (backTo cpos (starEach [] X.env)).any (·.1) = false := by rfl) :
    Ev X ρ μ (.Call (.Attribute o "index" apos) [e] [] cpos) (.dat (.int (ns.idxOf k : Nat))) μ2 := ⟨fun F as σ D H Q R q =>
  WE.of (pe_bm PySem.F.plainAttrs_list PySem.F.slot_list_index PySem.F.type_list_index mt_lix peW (pa_cons peW pa_nil hs) hbase hfew hline hs hplain) (ho F as σ D H _ R fun v m D1 H1 e1 R1 kv => by
    cases kv with
    | lst h1 h2 =>
      have h3 := h2.ints
      subst h3
      refine ⟨.inl ⟨rfl, _, .inl (.inl (R1.sub _ _ h1))⟩, ha F _ σ D1 H1 _ R1 fun u m2 D2 H2 e2 R2 ku => ?_⟩
      cases ku
      exact ⟨_, ns, k, rfl, rfl, .inl (.inl (R2.sub _ _ (e2 _ _ h1))), hk, ((q.after e1).after e2).now R2 (.int _)⟩)⟩
/-- of a tuple of the module -/
theorem ev_tindex {k : Int} {A : Addr} {ob : Obj} {xp : Pos} (hg : Gl X x) (hm : X.mg x = some (.ref A)) (hT : ∀ H, SqT X.K H A (ns.map V.int)) (hO : X.K.lookup A = some ob) (hO1 : ob.cls = .type "tuple") (hO2 : ob.dict = none) (ha : Ev X ρ μ e (.dat (.int k)) μ2) (hk : k ∈ ns)
    (hd : (x == ("__debug__" : Str)) = false := by decide) (hbase : attributeBase (.Name x xp) "index" X.env (eval (.Name x xp) X.env) = eval (.Name x xp) X.env := by rfl)
    (hfew : ((backTo cpos (starEach (e :: []) X.env)).all (fun x => !x.1) && (backToKw cpos (keywordEach [] X.env)).all (fun x => x.1.isSome)
      && decide ((e :: []).length + ([] : List Keyword).length + (if ([] : List Keyword).isEmpty then 0 else 1) < 30)) = true := by rfl)
    (hline : (apos.endLine == cpos.line) = true := by rfl) (hs : starEach (e :: []) X.env = (false, eval e X.env) :: starEach [] X.env := by rfl) (hplain : (backTo cpos (starEach [] X.env)).any (·.1) = false := by rfl) :
    Ev X ρ μ (.Call (.Attribute (.Name x xp) "index" apos) [e] [] cpos) (.dat (.int (ns.idxOf k : Nat))) μ2 := ⟨fun F as σ D H Q R q =>
  WE.of (pe_bm PySem.F.plainAttrs_tuple PySem.F.slot_tuple_index PySem.F.type_tuple_index mt_tix (pe_glob hg hm (v := .ref A) rfl hd) (pa_cons peW pa_nil hs) hbase hfew hline hs hplain)
    ⟨.inr (.inl ⟨rfl, ob, hO, hO1, hO2⟩), ha F as σ D H _ R fun u m2 D2 H2 e2 R2 ku => by
      cases ku
      exact ⟨A, ns, k, rfl, rfl, hT _, hk, (q.after e2).now R2 (.int _)⟩⟩⟩
end
end Gu
end
section
set_option Elab.async false
set_option linter.all false
set_option maxRecDepth 100000
set_option maxHeartbeats 1000000
namespace Gu
open PySem PySem.Spec PyProof.Rows L2
/-! ### two clauses -/
def doneB {α β : Type} (l : List α) (m : α → List β) (f : α → β → PyData) (i : Nat) : List PyData := (l.take i).flatMap fun u => (m u).map (f u)
theorem doneB_succ {α β : Type} {l : List α} {m : α → List β} {f : α → β → PyData} {i : Nat} {u : α} (h : l[i]? = some u) : doneB l m f (i + 1) = doneB l m f i ++ (m u).map (f u) := by
  unfold doneB
  rw [List.take_add_one, h, List.flatMap_append]
  simp
theorem take_map_succ {β : Type} {m : List β} {f : β → PyData} {j : Nat} {v : β} (h : m[j]? = some v) : (m.take (j + 1)).map f = (m.take j).map f ++ [f v] := by
  rw [List.take_add_one, h, List.map_append]
  rfl
section
variable {X : Cx} {ρ : List Slot} {μ μ1 : Mem} {it elt it1 : Expr} {pos px py : Pos} {i j : Nat} {x y : Str} {scope : Scope}
theorem lc2_main {α β : Type} {l : List α} {g : α → PyData} {m : α → List β} {g1 : α → β → PyData} {f : α → β → PyData} {j j2 : Nat} {tg : Expr} (hi : Evi X ρ μ tg it (l.map g) μ1) {tg1 : Expr} (hjj : j ≠ j2)
    (hin : ∀ u, u ∈ l → ∀ b, Evi (blkX X scope b) ((ρ.set j2 .un).set j (.dat (g u))) μ1 tg1 it1 ((m u).map (g1 u)) μ1)
    (he : ∀ u, u ∈ l → ∀ v, v ∈ m u → ∀ b, Ev (blkX X scope b) ((ρ.set j2 (.dat (g1 u v))).set j (.dat (g u))) μ1 elt (.dat (f u v)) μ1)
    (hsz : ∀ i, (doneB l m f i).length ≤ 50000) (hsz1 : ∀ u, u ∈ l → (m u).length ≤ 40000)
    (hj : j < ρ.length) (hj2 : j2 < ρ.length) (F : Fr0) (as : List Addr) (σ : L2.St) (D H : Hp) (Q : VK) (R : Rel X.K F ρ μ as σ D H) (hσ : j < σ.length) (hσ2 : j2 < σ.length) (q : Fin X F ρ μ1 as σ D Q (.dat (.list (doneB l m f l.length)))) :
    tLc2 (WI X tg it) (gName j) tYes (fun σ H R => ∀ b, WI (blkX X scope b) tg1 it1 σ H R) (gName j2) tYes (fun σ H Q => ∀ b, WE (blkX X scope b) elt σ H Q) [j, j2] [j2] σ H Q := by
  refine hi F as σ D H _ R fun J mm D1 H1 e1 R1 w => fun L hL => ?_
  have hLa := R1.newA hL
  have hLd := none_sub R1.sub hL
  have R2 : Rel X.K (Fr0.here D1 H1 (as ++ mm)) ((ρ.set j2 .un).set j .un) μ1 (as ++ mm) (wipe σ [j, j2]) D1 H1 := R1.in.slots fun i s e => by
    by_cases hk : i = j
    · subst hk
      rw [List.getElem?_set_self (by rw [List.length_set]; exact hj)] at e
      exact .inl (Option.some.inj e).symm
    · rw [List.getElem?_set_ne (Ne.symm hk)] at e
      by_cases hk2 : i = j2
      · subst hk2
        rw [List.getElem?_set_self hj2] at e
        exact .inl (Option.some.inj e).symm
      · rw [List.getElem?_set_ne (Ne.symm hk2)] at e
        show s = .un ∨ ∃ v, ((σ.set j2 none).set j none)[i]? = _ ∧ _
        rw [List.getElem?_set_ne (Ne.symm hk), List.getElem?_set_ne (Ne.symm hk2)]
        exact R1.env i s e
  have hll : (l.map g).length = l.length := List.length_map _
  refine ⟨fun i k H => k = l.length - i ∧ i ≤ l.length ∧ ∃ as2 D2 acc, Rel X.K (Fr0.here D1 H1 (as ++ mm)) ((ρ.set j2 .un).set j .un) μ1 as2 (wipe σ [j, j2]) D2 H ∧ H L = some (.lst acc) ∧ DqL X.K D2 acc (doneB l m f i) ∧ L ∉ as2 ∧ D2 L = none,
    ⟨l.length, rfl, Nat.zero_le _, _, D1, [], R2.side hL hLa hLd, upd_same, .nil, hLa, hLd⟩, ?_⟩
  rintro i k H2 ⟨rfl, hi, as2, D2, acc, R3, hacc, hd, hla, hld⟩
  have s2 : Same D1 H2 := R3.sd.trans R3.sub
  by_cases hl : i = l.length
  · subst hl
    refine .inl ⟨by rw [← hll]; exact w.stops _ s2, ?_⟩
    obtain ⟨l2, rfl⟩ := R3.grown
    have R4 := R1.back R3
    have R5 := R4.froz (R1.newF hL) hla hld hacc
    refine q (.ref L) (mm ++ l2) _ H2 (e1.trans (R3.sd.trans (same_new hld))) (by rw [← List.append_assoc]; exact R5) ?_
    exact .lst upd_same (hd.mono' (same_new hld))
  · have hlt : i < (l.map g).length := by omega
    refine .inr ⟨w.goes i H2 hlt s2, fun H' => ∃ as3 D3 acc, Rel X.K (Fr0.here D1 H1 (as ++ mm)) ((ρ.set j2 .un).set j .un) μ1 as3 (wipe σ [j, j2]) D3 H' ∧ H' L = some (.lst acc) ∧ DqL X.K D3 acc (doneB l m f (i + 1)) ∧ L ∉ as3 ∧ D3 L = none,
      fun H' q => ⟨l.length - (i + 1), by omega, rfl, by omega, q⟩, fun v H3 y => ?_⟩
    obtain ⟨d, hdat, y⟩ := w.yields i H2 v H3 hlt s2 y
    rw [List.getElem?_map] at hdat
    cases hu : l[i]? with
    | none => rw [hu] at hdat; cases hdat
    | some u =>
    rw [hu] at hdat
    have ed : g u = d := Option.some.inj hdat
    subst ed
    have hum := List.mem_of_getElem? hu
    rw [doneB_succ hu]
    have go : ∀ {D3 : Hp}, Rel X.K (Fr0.here D1 H1 (as ++ mm)) ((ρ.set j2 .un).set j .un) μ1 as2 (wipe σ [j, j2]) D3 H3 → Dq X.K D3 v (g u) → H3 L = some (.lst acc) → D3 L = none → DqL X.K D3 acc (doneB l m f i) →
        gName j v (wipe σ [j, j2]) H3 (fun σ2 H2 => wipe σ2 [j, j2] = wipe σ [j, j2] ∧ tYes σ2 H2 fun b H3 => if b = true then (fun σ H R => ∀ b, WI (blkX X scope b) tg1 it1 σ H R) σ2 H3 fun J1 H4 => ∃ W1 : Nat → Nat → Hp → Prop, (∃ m, W1 0 m H4) ∧ ∀ jj k H, W1 jj k H →
          (J1.stop jj H ∧ ∃ as3 D3 acc', Rel X.K (Fr0.here D1 H1 (as ++ mm)) ((ρ.set j2 .un).set j .un) μ1 as3 (wipe σ [j, j2]) D3 H ∧ H L = some (.lst acc') ∧ DqL X.K D3 acc' (doneB l m f i ++ (m u).map (f u)) ∧ L ∉ as3 ∧ D3 L = none) ∨
          (J1.go jj H ∧ ∃ Nx1 : Hp → Prop, (∀ H', Nx1 H' → ∃ k', k' < k ∧ W1 (jj + 1) k' H') ∧ ∀ x H', J1.yld jj H x H' → gName j2 x (wipe σ2 [j2]) H' fun σ3 H5 => wipe σ3 [j2] = wipe σ2 [j2] ∧ tYes σ3 H5 fun b H6 =>
            if b = true then (fun σ H Q => ∀ b, WE (blkX X scope b) elt σ H Q) σ3 H6 fun y H7 => ∃ acc, H7 L = some (.lst acc) ∧ acc.length < sizeLine ∧ Nx1 (upd H7 L (.lst (acc ++ [y]))) else Nx1 H6)
          else ∃ as3 D3 acc', Rel X.K (Fr0.here D1 H1 (as ++ mm)) ((ρ.set j2 .un).set j .un) μ1 as3 (wipe σ [j, j2]) D3 H3 ∧ H3 L = some (.lst acc') ∧ DqL X.K D3 acc' (doneB l m f i ++ (m u).map (f u)) ∧ L ∉ as3 ∧ D3 L = none) := fun {D3} R4 k4 hacc hld hd => by
      have lw : (wipe σ [j, j2]).length = σ.length := wipe_length _ _
      refine ⟨?_, ?_⟩
      · show ((((σ.set j2 none).set j none).set j (some v)).set j2 none).set j none = (σ.set j2 none).set j none
        rw [List.set_set, List.set_comm _ _ (Ne.symm hjj), List.set_set, List.set_comm _ _ hjj, List.set_set]
      · simp only [tYes, if_true]
        intro b1
        have R5 : Rel X.K (Fr0.here D3 H3 as2) ((ρ.set j2 .un).set j (.dat (g u))) μ1 as2 ((wipe σ [j, j2]).set j (some v)) D3 H3 := by
          have z := R4.in.set (i := j) (v := v) (s := .dat (g u)) (by rw [lw]; exact hσ) k4
          rw [List.set_set] at z
          exact z
        refine hin u hum b1 _ _ _ D3 H3 _ R5 fun J1 m4 D4 H4 e4 R6 w1 => ?_
        have R7 : Rel X.K (Fr0.here D1 H1 (as ++ mm)) ((ρ.set j2 .un).set j .un) μ1 (as2 ++ m4) (wipe σ [j, j2]) D4 H4 := R4.back R6
        obtain ⟨k1, k2, k3⟩ := R6.kept hacc hla hld
        have hl2 : ((m u).map (g1 u)).length = (m u).length := List.length_map _
        refine ⟨fun jj k H => k = (m u).length - jj ∧ jj ≤ (m u).length ∧ ∃ as3 D5 acc', Rel X.K (Fr0.here D1 H1 (as ++ mm)) ((ρ.set j2 .un).set j .un) μ1 as3 (wipe σ [j, j2]) D5 H ∧ Same D4 D5 ∧ H L = some (.lst acc') ∧ DqL X.K D5 acc' (doneB l m f i ++ ((m u).take jj).map (f u)) ∧ L ∉ as3 ∧ D5 L = none,
          ⟨(m u).length, rfl, Nat.zero_le _, _, D4, acc, R7, Same.refl _, k1, by rw [List.take_zero, List.map_nil, List.append_nil]; exact hd.mono' e4, k2, k3⟩, ?_⟩
        rintro jj k H6 ⟨rfl, hjj', as3, D5, acc', R8, s5, p1, p2, p3, p4⟩
        have s6 : Same D4 H6 := s5.trans R8.sub
        by_cases hl3 : jj = (m u).length
        · subst hl3
          rw [List.take_length] at p2
          exact .inl ⟨by rw [← hl2]; exact w1.stops _ s6, as3, D5, acc', R8, p1, p2, p3, p4⟩
        · have hlt2 : jj < ((m u).map (g1 u)).length := by omega
          refine .inr ⟨w1.goes jj H6 hlt2 s6, fun H' => ∃ as3 D5 acc', Rel X.K (Fr0.here D1 H1 (as ++ mm)) ((ρ.set j2 .un).set j .un) μ1 as3 (wipe σ [j, j2]) D5 H' ∧ Same D4 D5 ∧ H' L = some (.lst acc') ∧ DqL X.K D5 acc' (doneB l m f i ++ ((m u).take (jj + 1)).map (f u)) ∧ L ∉ as3 ∧ D5 L = none,
            fun H' q => ⟨(m u).length - (jj + 1), by omega, rfl, by omega, q⟩, fun vv H7 yy => ?_⟩
          obtain ⟨d2, hd2, yy⟩ := w1.yields jj H6 vv H7 hlt2 s6 yy
          rw [List.getElem?_map] at hd2
          cases hv : (m u)[jj]? with
          | none => rw [hv] at hd2; cases hd2
          | some v2 =>
          rw [hv] at hd2
          have ed2 : g1 u v2 = d2 := Option.some.inj hd2
          subst ed2
          have go2 : ∀ {D6 : Hp}, Same D5 D6 → Rel X.K (Fr0.here D1 H1 (as ++ mm)) ((ρ.set j2 .un).set j .un) μ1 as3 (wipe σ [j, j2]) D6 H7 → Dq X.K D6 vv (g1 u v2) → H7 L = some (.lst acc') → D6 L = none →
              gName j2 vv (wipe ((wipe σ [j, j2]).set j (some v)) [j2]) H7 fun σ3 H5 => wipe σ3 [j2] = wipe ((wipe σ [j, j2]).set j (some v)) [j2] ∧ tYes σ3 H5 fun b H6 =>
                if b = true then (fun σ H Q => ∀ b, WE (blkX X scope b) elt σ H Q) σ3 H6 fun y H7 => ∃ acc, H7 L = some (.lst acc) ∧ acc.length < sizeLine ∧ ∃ as3 D5 acc', Rel X.K (Fr0.here D1 H1 (as ++ mm)) ((ρ.set j2 .un).set j .un) μ1 as3 (wipe σ [j, j2]) D5 (upd H7 L (.lst (acc ++ [y]))) ∧ Same D4 D5 ∧ (upd H7 L (.lst (acc ++ [y]))) L = some (.lst acc') ∧ DqL X.K D5 acc' (doneB l m f i ++ ((m u).take (jj + 1)).map (f u)) ∧ L ∉ as3 ∧ D5 L = none
                else ∃ as3 D5 acc', Rel X.K (Fr0.here D1 H1 (as ++ mm)) ((ρ.set j2 .un).set j .un) μ1 as3 (wipe σ [j, j2]) D5 H6 ∧ Same D4 D5 ∧ H6 L = some (.lst acc') ∧ DqL X.K D5 acc' (doneB l m f i ++ ((m u).take (jj + 1)).map (f u)) ∧ L ∉ as3 ∧ D5 L = none := fun {D6} s56 R9 k9 p1 p4 => by
            refine ⟨?_, ?_⟩
            · show (((((σ.set j2 none).set j none).set j (some v)).set j2 none).set j2 (some vv)).set j2 none = _
              rw [List.set_set, List.set_set]
              rfl
            · simp only [tYes, if_true]
              intro b2
              have R10 : Rel X.K (Fr0.here D6 H7 as3) ((ρ.set j2 (.dat (g1 u v2))).set j (.dat (g u))) μ1 as3 ((wipe ((wipe σ [j, j2]).set j (some v)) [j2]).set j2 (some vv)) D6 H7 := by
                have z1 := R9.in.set (i := j) (v := v) (s := .dat (g u)) (by rw [lw]; exact hσ) (k4.mono' (e4.trans (s5.trans s56)))
                have z2 := z1.set (i := j2) (v := vv) (s := .dat (g1 u v2)) (by rw [List.length_set, lw]; exact hσ2) k9
                rw [List.set_set, List.set_comm _ _ hjj, List.set_set] at z2
                show Rel _ _ _ _ _ ((((wipe σ [j, j2]).set j (some v)).set j2 none).set j2 (some vv)) _ _
                rw [List.set_set]
                exact z2
              refine he u hum v2 (List.mem_of_getElem? hv) b2 _ _ _ D6 H7 _ R10 fun y2 m8 D8 H8 e8 R11 k11 => ?_
              obtain ⟨r1, r2, r3⟩ := R11.kept p1 p3 p4
              have R12 := R9.back R11
              have lacc : acc'.length < sizeLine := by
                rw [p2.len, List.length_append, List.length_map]
                have z1 := hsz i
                have z2 := hsz1 u hum
                have z3 : ((m u).take jj).length ≤ (m u).length := by rw [List.length_take]; exact Nat.min_le_right _ _
                exact Nat.lt_of_le_of_lt (show _ ≤ 90000 by omega) (by decide)
              refine ⟨acc', r1, lacc, _, D8, _, R12.side hL r2 r3, s5.trans (s56.trans e8), upd_same, ?_, r2, r3⟩
              rw [take_map_succ hv, ← List.append_assoc]
              exact (p2.mono' (s56.trans e8)).app (.cons k11 .nil)
          rcases yy with ⟨rfl, k⟩ | ⟨T, xs, es, hT, rfl, rfl, edd, k⟩
          · exact go2 (Same.refl _) R8 (k.mono' s5) p1 p4
          · have nT : L ≠ T := fun z => by
              subst z
              rw [p1] at hT
              cases hT
            obtain ⟨R9, k9⟩ := R8.dat' hT (k.mono' s5)
            exact go2 (same_new (none_sub R8.sub hT)) R9 (by rw [edd]; exact k9) (by rw [upd_ne nT]; exact p1) (by rw [upd_ne nT]; exact p4)
    rcases y with ⟨rfl, k⟩ | ⟨T, xs, es, hT, rfl, rfl, edd, k⟩
    · exact go R3 (k.mono' R3.sd) hacc hld hd
    · obtain ⟨R4, k4⟩ := R3.dat' hT (k.mono' R3.sd)
      have nT : L ≠ T := fun z => by
        subst z
        rw [hacc] at hT
        cases hT
      exact go R4 (by rw [edd]; exact k4) (by rw [upd_ne nT]; exact hacc) (by rw [upd_ne nT]; exact hld) (hd.mono' (same_new (none_sub R3.sub hT)))
theorem ev_lc2 {α β : Type} {l : List α} {g : α → PyData} {m : α → List β} {g1 : α → β → PyData} {f : α → β → PyData} {j j2 : Nat} (hc : X.calm = true) (hN : X.N.Nodup) (hi : Evi X ρ μ (.Name x px) it (l.map g) μ1)
    (hin : ∀ u, u ∈ l → ∀ b, Evi (blkX X scope b) ((ρ.set j2 .un).set j (.dat (g u))) μ1 (.Name y py) it1 ((m u).map (g1 u)) μ1)
    (he : ∀ u, u ∈ l → ∀ v, v ∈ m u → ∀ b, Ev (blkX X scope b) ((ρ.set j2 (.dat (g1 u v))).set j (.dat (g u))) μ1 elt (.dat (f u v)) μ1)
    (hsz : ∀ i, (doneB l m f i).length ≤ 50000) (hsz1 : ∀ u, u ∈ l → (m u).length ≤ 40000)
    (hj : j < ρ.length := by exact Nat.lt_of_sub_eq_succ rfl) (hj2 : j2 < ρ.length := by exact Nat.lt_of_sub_eq_succ rfl) (hjj : j ≠ j2 := by decide) (hx : X.N[j]? = some x := by rfl) (hy : X.N[j2]? = some y := by rfl) (ok : blkC X.N X.env.scope scope [(x, j), (y, j2)] = true := by rfl)
    (hl : ∀ b, Loc (blkX X scope b).env.scope x := by first | exact fun _ => Or.inl rfl | exact fun _ => Or.inr rfl) (hl2 : ∀ b, Loc (blkX X scope b).env.scope y := by first | exact fun _ => Or.inl rfl | exact fun _ => Or.inr rfl)
    (hf : ∀ b, (blkX X scope b).fn x = true ∨ (blkX X scope b).env.scope.names.lookup x = some .local := by first | exact fun _ => .inl rfl | exact fun _ => .inr rfl) (hf2 : ∀ b, (blkX X scope b).fn y = true ∨ (blkX X scope b).env.scope.names.lookup y = some .local := by first | exact fun _ => .inl rfl | exact fun _ => .inr rfl)
    (hfold : ∀ x, foldedSetIterable it X.env x = pure x := by intro _; rfl) (hfold1 : ∀ env x, foldedSetIterable it1 env x = pure x := by intro _ _; rfl) :
    Ev X ρ μ (.ListComp elt [⟨.Name x px, it, [], 0⟩, ⟨.Name y py, it1, [], 0⟩] scope pos) (.dat (.list (doneB l m f l.length))) μ1 := ⟨fun F as σ D H Q R q pins s0 I =>
  WE.of (pe_lc2 (vs1 := [j2]) hc hN piW (blkOk_by ok) (by intro i hi; rcases List.mem_singleton.mp hi with rfl; simp) (fun s H C cl fp => pg_name hN hx (hl ⟨s, H, C, cl, fp⟩) (hf ⟨s, H, C, cl, fp⟩)) (fun s H C cl fp => pts_nil) (fun s H C cl fp => ⟨fun pins s' σ H' Q I h => (h ⟨s, H, C, cl, fp⟩) pins s' I⟩)
    (fun s H C cl fp => pg_name hN hy (hl2 ⟨s, H, C, cl, fp⟩) (hf2 ⟨s, H, C, cl, fp⟩)) (fun s H C cl fp => pts_nil) (fun s H C cl fp => ⟨fun pins s' σ H' Q I h => (h ⟨s, H, C, cl, fp⟩) pins s' I⟩) hfold hfold1)
    (lc2_main hi hjj hin he hsz hsz1 hj hj2 F as σ D H Q R (by rw [I.len]; exact (List.getElem?_eq_some_iff.mp hx).1) (by rw [I.len]; exact (List.getElem?_eq_some_iff.mp hy).1) q) pins s0 I⟩
end
end Gu
end
section
set_option Elab.async false
set_option linter.all false
set_option maxRecDepth 100000
set_option maxHeartbeats 1000000
namespace Gu
open PySem PySem.Spec PyProof.Rows L2
/-! ### a def that reads a list of the caller's, as its second argument -/
def spR (K : PySem.W.Frag) (post : PyData → List PyData → PyData → Prop) : Sp := fun vs H Q _ => ∃ (D : Hp) (u : V) (a : Addr) (xs : List V) (d1 : PyData) (ms : List PyData) (d : PyData),
  vs = [u, .ref a] ∧ H a = some (.lst xs) ∧ D a = none ∧ DqL K D xs ms ∧ Same D H ∧ Dq K D u d1 ∧ post d1 ms d ∧
  ∀ v D' H' xs', Same D D' → Same D' H' → (∀ b o, b ≠ a → H b = some o → H' b = some o) → New D H D' → D' a = none → H' a = some (.lst xs') → DqL K D' xs' ms → Dq K D' v d → Q v H'
def givesR (d : PyData) (ms : List PyData) : Out → Prop
  | .rt s μ => μ[0]? = some ms ∧ ∃ j ds, s = .mut (j + 1) ∧ μ[j + 1]? = some ds ∧ d = .list ds
  | .nx _ _ => False
theorem fn_ro {G : Gv} {x qual : Str} {params : Arguments} {body : List Stmt} {scope : Scope} {f : Addr} {fd : FuncData} {N ps : List Str} {k : Nat} {post : PyData → List PyData → PyData → Prop} (F : FunD G.K x qual params body scope [] [] f fd) (S : FnScope N ps scope) (hl : ps.length = 2)
    (hb : ∀ (i : Bi) (d1 : PyData) (ms : List PyData) (d : PyData), N.Nodup → Room k (bX G N qual scope i).A → post d1 ms d → Ws (bX G N qual scope i) body (slots0 N [.dat d1, .mut 0]) [ms] (givesR d ms)) : FnOk G.P G.w G.K G.mg G.base CX0 (k + 1) f fd ps (spR G.K post) := by
  refine F.ok S (fun vs H Q E ⟨D, u, a, xs, d1, ms, d, e, _⟩ => by rw [e, hl]; rfl) fun cdv A outer s H vs Q E hr ⟨D, u, a, xs, d1, ms, d, e, ha, hd, hx, hs, hu, p, fin⟩ => ?_
  subst e
  refine ⟨WB (bX G N qual scope ⟨f, cdv, A, outer, s, H, E⟩) body, PSs.nox pbW, ?_⟩
  have R := rel_start (K := G.K) (N := N) (ss := [.dat d1, .mut 0]) (vs := [u, .ref a]) (μ := [ms]) (as := [a]) hs ⟨hu, ⟨a, rfl, rfl⟩, trivial⟩ rfl (fun j b es h h2 => by
    cases j with
    | zero =>
      cases h
      cases h2
      exact ⟨xs, ha, hx⟩
    | succ j => simp at h) (by simp) (fun b h => by
    rw [List.mem_singleton] at h
    subst h
    exact hd)
  refine WB.mono (hb ⟨f, cdv, A, outer, s, H, E⟩ d1 ms d S.nd hr p _ [a] _ D H R) ?_ ?_ (fun _ _ h => h) fun _ _ h => h
  · rintro σ H' ⟨ρ, μ, as, D', hp, r⟩
    exact False.elim hp
  · rintro v H' ⟨z, ρ, μ, as, σ, D', hp, r, kv⟩
    have hp' : μ[0]? = some ms ∧ ∃ j ds, z = .mut (j + 1) ∧ μ[j + 1]? = some ds ∧ d = .list ds := hp
    obtain ⟨h0, j, es, rfl, hj, rfl⟩ := hp'
    obtain ⟨l, rfl⟩ := r.grown
    obtain ⟨xs', h1, h2⟩ := r.mem 0 a ms rfl h0
    obtain ⟨b, hb2, rfl⟩ := kv
    obtain ⟨ys, h3, h4⟩ := r.mem (j + 1) b es hb2 hj
    have hm := List.mem_of_getElem? hb2
    have nb := r.out b hm
    have nab : a ≠ b := fun z => by
      subst z
      have := nd_ix r.nd (show ([a] ++ l)[0]? = some a from rfl) hb2
      omega
    obtain ⟨l2, e2, fl⟩ := r.own
    have e3 : l = l2 := List.append_cancel_left (show [a] ++ l = [a] ++ l2 from e2)
    subst e3
    have hbl : b ∈ l := by
      rcases List.mem_append.mp hm with q | q
      · exact absurd (List.mem_singleton.mp q).symm nab
      · exact q
    refine fin _ (upd D' b (.lst ys)) H' xs' (r.sd.trans (same_new nb)) (fun c o h => ?_) (fun c o hc h => r.frame c o h (by simpa [Fr0.here] using hc)) (fun c o h => ?_) ?_ h1 (h2.mono' (same_new nb)) (.lst upd_same (h4.mono' (same_new nb)))
    · by_cases hc : c = b
      · subst hc
        rw [upd_same] at h
        rw [h3]
        exact h
      · rw [upd_ne hc] at h
        exact r.sub c o h
    · by_cases hc : c = b
      · subst hc
        exact .inr (fl c hbl)
      · rw [upd_ne hc] at h
        exact r.new c o h
    · rw [upd_ne nab]
      exact r.out a (by simp)
section
variable {X : Cx} {F : Fr0} {ρ ρ' : List Slot} {μ μ1 μ2 μ3 μ' : Mem} {as more : List Addr} {σ : L2.St} {D D' H H' : Hp} {Q : VK} {s sa sb : Slot} {e a b c o tg it elt : Expr} {es ifs : List Expr} {pos p apos px : Pos} {d d1 d2 da db : PyData} {ds es' : List PyData} {ss : List Slot} {st rest body els : List Stmt} {P P' : Out → Prop} {j k : Nat} {x y z : Str}
theorem ev_callR {post : PyData → List PyData → PyData → Prop} {ms : List PyData} {e1 e2 : Expr} (G : Def X.prog X.w X.K X.mg X.base x k (spR X.K post)) (hr : Room k X.A) (ha : Eva X ρ μ [e1, e2] [.dat d1, .mut j] μ') (hj : μ'[j]? = some ms) (hp : post d1 ms d) (hg : Gl X x := by rfl) (hdb : (x == ("__debug__" : Str)) = false := by decide)
    (he : starEach [e1, e2] X.env = (false, eval e1 X.env) :: starEach [e2] X.env := by rfl) (hpl : (backTo pos (starEach [e2] X.env)).any (·.1) = false := by rfl) : Ev X ρ μ (.Call (.Name x p) [e1, e2] [] pos) (.dat d) μ' := ⟨fun F as σ D H Q R q => by
  obtain ⟨f, fd, ps, G, hm, hk, hb⟩ := G.ex
  refine WE.of (pe_call G hr hg hm hk hb .nil pass0 paW hdb he hpl) (ha F as σ D H _ R fun vs m D1 H1 q1 R1 k1 => ?_)
  rw [List.append_nil]
  obtain ⟨v, u, rfl, k2, ⟨a, haj, rfl⟩⟩ := voks2 k1
  obtain ⟨xs, hx, hq⟩ := R1.mem j a ms haj hj
  refine ⟨D1, v, a, xs, d1, ms, d, rfl, hx, R1.out a (List.mem_of_getElem? haj), hq, R1.sub, k2, hp, fun w D2 H2 xs' q2 q3 q4 n n2 h' hq' k3 => ?_⟩
  have R2 := R1.callV haj q2 q3 q4 n h' hq'
  have e5 : μ'.set j ms = μ' := by
    obtain ⟨h1, h2⟩ := List.getElem?_eq_some_iff.mp hj
    rw [← h2]
    exact List.set_getElem_self h1
  rw [e5] at R2
  exact (q.after (more := m) (q1.trans q2)) w [] D2 H2 (Same.refl _) (by rw [List.append_nil]; exact R2) (VOk.nil k3)⟩
/-- xs[i], y = e, xs a list of one's own -/
theorem ws_subname {oi : Expr} {pt py ptt : Pos} {i : Int} {iy kt : Nat} (hc : X.calm = true) (hN : X.N.Nodup) (h : Ev X ρ μ e (.dat (.tuple [d1, d2])) μ1) (ho : Ev X ρ μ1 o (.mut j) μ1) (hi : Ev X ρ μ1 oi (.dat (.int i)) μ1) (hj : μ1[j]? = some ds) (h0 : 0 ≤ i) (hl : i < ds.length) (k : Ws X rest (ρ.set iy (.dat d2)) (μ1.set j (ds.set i.toNat d1)) P)
    (hy : X.N[iy]? = some y := by rfl) (hx : Loc X.env.scope y := by first | exact Or.inl rfl | exact Or.inr rfl) (hf : X.fn y = true ∨ X.env.scope.names.lookup y = some .local := by first | exact .inl rfl | exact .inr rfl)
    (hs : swapsWithSole [.Tuple [.Subscript o oi pt, .Name y py] kt ptt] e pos.line X.env = pure false := by rfl) (hw : swappedStores [.Tuple [.Subscript o oi pt, .Name y py] kt ptt] e X.env = pure none := by rfl) (h1 : (assignEach [.Tuple [.Subscript o oi pt, .Name y py] kt ptt] X.env).map (·.2) = [assign (.Tuple [.Subscript o oi pt, .Name y py] kt ptt) X.env] := by rfl)
    (hs1 : (assignEach [.Subscript o oi pt, .Name y py] X.env).map (·.2) = assign (.Subscript o oi pt) X.env :: (assignEach [.Name y py] X.env).map (·.2) := by rfl)
    (hs2 : (assignEach [.Name y py] X.env).map (·.2) = assign (.Name y py) X.env :: (assignEach [] X.env).map (·.2) := by rfl) (hn : (assignEach [.Subscript o oi pt, .Name y py] X.env).length = 2 := by rfl) (hst : (assignEach [.Subscript o oi pt, .Name y py] X.env).findIdx? (·.1) = none := by rfl)
    (ha : ∀ v, assign (.Subscript o oi pt) X.env v = (do
      let ov ← holding [v] (eval o X.env)
      let iv ← holding [v, ov] (eval oi X.env)
      standAt pt
      holding [v, ov, iv] (setItem ov iv v)
      release [v, ov, iv] []) := by intro _; rfl) : Ws X (.Assign [.Tuple [.Subscript o oi pt, .Name y py] kt ptt] e pos :: rest) ρ μ P := ⟨fun F as σ D H R pins s0 I =>
  WB.of (pss_cons (ps_asg peW (pg_tup hc (pgs_cons (pg_sub peW peW set_list ha) (pgs_cons (pg_name hN hy hx hf) pgs_nil hs2) hs1) hn hst) hs hw h1) pbW) (h F as σ D H _ R fun v m D1 H1 e1 R1 kv => by
    cases kv with
    | tup hsq hq =>
      cases hq with
      | cons k1 hq =>
        cases hq with
        | cons k2 hq =>
          cases hq
          refine ⟨_, _, rfl, sqT_mono R1.sub hsq, rfl, _, _, rfl, ho F _ σ D1 H1 _ R1 fun u m2 D2 H2 e2 R2 ku => hi F _ σ D2 H2 _ R2 fun w m3 D3 H3 e3 R3 kw => ?_⟩
          cases kw
          obtain ⟨a, ha2, rfl⟩ := ku.mono (more := m3) e3
          obtain ⟨xs, hx2, hq2⟩ := R3.mem j a ds ha2 hj
          refine ⟨a, xs, i, i.toNat, rfl, rfl, hx2, ?_, _, _, rfl, rfl, k F _ _ D3 _ ((R3.wr ha2 (hq2.set _ (Dq.mono' (e2.trans e3) k1))).set (by rw [I.len]; exact (List.getElem?_eq_some_iff.mp hy).1) (Dq.mono' (e2.trans e3) k2))⟩
          unfold ixN
          rw [if_pos h0, if_pos (by rw [hq2.len]; exact hl)]) pins s0 I⟩
/-- a factor that is small -/
theorem ev_mulS {i j : Int} (hc : (-(2 ^ 64) < i ∧ i < 2 ^ 64) ∨ (-(2 ^ 64) < j ∧ j < 2 ^ 64)) (ha : Ev X ρ μ a (.dat (.int i)) μ1) (hb : Ev X ρ μ1 b (.dat (.int j)) μ2) : Ev X ρ μ (.BinOp a .Mult b pos) (.dat (.int (i * j))) μ2 := ev_op op_mul ha hb (o2_I hc fun _ => .int _)
end
end Gu
end
section
set_option Elab.async false
set_option linter.all false
set_option maxRecDepth 100000
set_option maxHeartbeats 1000000
namespace Gu
open PySem PySem.Spec PyProof.Rows L2
/-! ### calls by keywords alone -/
def WKw (X : Cx) (kws : List Keyword) : TA := fun σ H Q => ∀ (pos : Pos) (pins : List (Addr × Obj)) (s : Shared), Inv X pins σ H s → wpAny (model X.prog X.w) X.A (evalAll ((backToKw pos (keywordEach kws X.env)).map (·.2))) (AP X pins σ Q) X.xe s
structure DefK (P : Program) (w : World) (K : PySem.W.Frag) (mg : Str → Option Value) (base : Heap) (x : Str) (k : Nat) (ps : List Str) (sp : Sp) : Prop where
  ex : ∃ (f : Addr) (fd : FuncData), FnOk P w K mg base CX0 k f fd ps sp ∧ mg x = some (.ref f) ∧ PySem.W.keepIn K (.ref f) = true ∧ ∀ (s : Shared) (ws : List Value), ws.length = ps.length → BindsTo s fd ⟨[], ps.zip ws⟩ (ps.zip ws)
structure Evk (X : Cx) (ρ : List Slot) (μ : Mem) (kws : List Keyword) (ds : List PyData) (μ' : Mem)  : Prop where
  run : ∀ (F : Fr0) (as : List Addr) (σ : L2.St) (D H : Hp) (Q : List V → Hp → Prop), Rel X.K F ρ μ as σ D H →
    (∀ (vs : List V) (more : List Addr) (D' H' : Hp), Same D D' → Rel X.K F ρ μ' (as ++ more) σ D' H' → DqL X.K D' vs ds → Q vs H') → WKw X kws σ H Q
instance Evk.fn {X : Cx} {ρ : List Slot} {μ : Mem} {kws : List Keyword} {ds : List PyData} {μ' : Mem} : CoeFun (Evk X ρ μ kws ds μ') (fun _ => ∀ (F : Fr0) (as : List Addr) (σ : L2.St) (D H : Hp) (Q : List V → Hp → Prop), Rel X.K F ρ μ as σ D H →
    (∀ (vs : List V) (more : List Addr) (D' H' : Hp), Same D D' → Rel X.K F ρ μ' (as ++ more) σ D' H' → DqL X.K D' vs ds → Q vs H') → WKw X kws σ H Q) := ⟨fun h => h.run⟩
section
variable {X : Cx} {F : Fr0} {ρ : List Slot} {μ μ1 μ2 μ' : Mem} {as : List Addr} {σ : L2.St} {D D' H H' : Hp} {Q : VK} {s : Slot} {e a : Expr} {pos p kpos : Pos} {d : PyData} {ds : List PyData} {kws : List Keyword} {k : Nat} {x : Str} {nm : Option Str} {ps : List Str}
theorem pkW : PK X kws (WKw X kws) := ⟨fun pos pins s σ H Q I h => h pos pins s I⟩
theorem evk_nil : Evk X ρ μ [] [] μ := ⟨fun F as σ D H Q R q pos pins s I => pk_nil.run pos pins s σ H Q I (q [] [] D H (Same.refl _) R.nil .nil)⟩
theorem evk_cons (ha : Ev X ρ μ e (.dat d) μ1) (hr : Evk X ρ μ1 kws ds μ2) : Evk X ρ μ (⟨nm, e, kpos⟩ :: kws) (d :: ds) μ2 := ⟨fun F as σ D H Q R q pos pins s I =>
  (pk_cons peW pkW).run pos pins s σ H Q I (ha F as σ D H _ R fun v m D1 H1 e1 R1 k1 => hr F _ σ D1 H1 _ R1 fun vs m2 D2 H2 e2 R2 k2 =>
    q (v :: vs) (m ++ m2) D2 H2 (e1.trans e2) (by rw [← List.append_assoc]; exact R2) (.cons (Dq.mono' e2 k1) k2))⟩
theorem ev_callK {post : List PyData → PyData → Prop} (G : DefK X.prog X.w X.K X.mg X.base x k ps (spD X.K post)) (hr : Room k X.A) (ha : Evk X ρ μ kws ds μ') (hp : post ds d) (hg : Gl X x := by rfl) (hdb : (x == ("__debug__" : Str)) = false := by decide)
    (hall : (backToKw pos (keywordEach kws X.env)).all (·.1.isSome) = true := by rfl) (hks : (backToKw pos (keywordEach kws X.env)).filterMap (·.1) = ps := by rfl)
    (hpl : ((backTo pos (starEach [] X.env)).any (·.1) || (backToKw pos (keywordEach kws X.env)).any (·.1.isNone)) = false := by rfl) : Ev X ρ μ (.Call (.Name x p) [] kws pos) (.dat d) μ' := ⟨fun F as σ D H Q R q pins s0 I => by
  obtain ⟨f, fd, G, hm, hk, hb⟩ := G.ex
  refine wpAny_Call_Name_kw (ld_glob I hg hm ?_ hdb)
  refine PySem.W.callWith_KW0 (h₀ := X.base) I.ok.mod.kin hk hall ?_ hpl
  refine thn (ha F as σ D H (fun zs H1 => spD X.K post zs H1 Q fun _ _ _ => False) R (fun vs m D1 H1 e1 R1 k1 => ?_) pos pins s0 I) fun ws s2 ⟨zs, H2, I2, rz, q2⟩ => ⟨I2.kIn, ?_⟩
  · exact ⟨D1, ds, d, R1.sub, k1, hp, fun v D2 H2 e2 e3 e4 n k2 => (q.after (more := m) (e1.trans e2)) v [] D2 H2 (Same.refl _) (by rw [List.append_nil]; exact R1.call e2 e3 e4 n) (VOk.nil k2)⟩
  · rw [hks]
    have hl : ws.length = ps.length := by
      rw [← rz.length]
      exact G.len _ _ _ _ q2
    refine wpAny_call (codeAny_mono (G.run X.A X.stack s2 H2 ⟨[], ps.zip ws⟩ ws zs Q _ hr I2.env0 (hb s2 ws hl) rz q2) fun r s' hq => ?_)
    cases r with
    | error e => exact False.elim hq
    | ok fl =>
      cases fl with
      | ret u => exact I2.after hq
      | next => exact False.elim hq
      | brk => exact False.elim hq
      | cont => exact False.elim hq⟩
/-! ### repr -/
mutual
theorem dq_nodict {K : PySem.W.Frag} {D : Hp} : ∀ (d : PyData) (v : V), Dq K D v d → d.hasDict = false
  | .none, _, _ => rfl
  | .bool _, _, _ => rfl
  | .int _, _, _ => rfl
  | .str _, _, _ => rfl
  | .list ds, _, h => by cases h with | lst h q => exact dqL_nodict ds _ q
  | .tuple ds, _, h => by cases h with | tup h q => exact dqL_nodict ds _ q
  | .dict _, _, h => by cases h
theorem dqL_nodict {K : PySem.W.Frag} {D : Hp} : ∀ (ds : List PyData) (vs : List V), DqL K D vs ds → PyData.hasDictAll ds = false
  | [], _, _ => rfl
  | d :: ds, _, h => by
    cases h with
    | cons h q =>
      show (d.hasDict || PyData.hasDictAll ds) = false
      rw [dq_nodict d _ h, dqL_nodict ds _ q]
      rfl
end
def kindR : PyData → Bool
  | .bool _ => true
  | .list _ => true
  | .tuple _ => true
  | _ => false
theorem cr_repr (hg : X.A.guards = some []) (hu : X.A.units + 100 < cLine) : CallR X (.builtin "repr") (fun xs H Q => ∃ v d, xs = [v] ∧ Dq X.K H v d ∧ kindR d = true ∧ d.showable = true ∧ d.depth ≤ 64 ∧ small d.shown.length ∧ Q (.str d.shown) H) := by
  intro pins s σ H xs us Q I r h
  obtain ⟨v, d, rfl, hd, hk, hs, hp, hz, q⟩ := h
  have e0 : ∃ u, us = [u] ∧ RelV v u := by
    cases r with
    | cons r rr =>
      cases rr
      exact ⟨_, rfl, r⟩
  obtain ⟨u, rfl, rv⟩ := e0
  obtain ⟨as, rd⟩ := Dp.reads I d v u (Dq.dp d v hd) rv
  have nd := dq_nodict d v hd
  have fin : ∀ a, u = .ref a → wpAny (model X.prog X.w) X.A (call (.builtin "repr") [u]) (EP X pins σ Q) X.xe s := fun a e => by
    subst e
    exact PySem.repr_of_reads' rd hs (fun z => by rw [nd] at z; cases z) hg (by omega) (fun _ _ e => e) (fun h' u tk hk2 => ⟨.str d.shown, H, I.kept (t' := tk) hk2, ⟨u, rfl⟩, q⟩) hz.line
  cases hd with
  | bl b =>
    cases rv
    exact PySem.P.repr_of_bool ⟨.str _, H, I.tok _, ⟨_, rfl⟩, q⟩
  | lst h1 h2 => exact fin _ rv
  | tup h1 h2 => exact fin _ rv
  | non => cases hk
  | int _ => cases hk
  | str _ => cases hk
theorem ev_repr (hgu : X.A.guards = some []) (hu : X.A.units + 100 < cLine) (hm : X.mg "repr" = none) (hk : kindR d = true) (hs : d.showable = true) (hp : d.depth ≤ 64) (hz : small d.shown.length) (ha : Ev X ρ μ a (.dat d) μ1) (hg : Gl X "repr" := by rfl) (hse : starEach [a] X.env = (false, eval a X.env) :: starEach [] X.env := by rfl) :
    Ev X ρ μ (.Call (.Name "repr" p) [a] [] pos) (.dat (.str d.shown)) μ1 :=
  ev_callB (cr_repr hgu hu) hm boot_repr0 (eva_cons ha eva_nil hse) (fun F as σ D H Q xs R k q => by
    obtain ⟨v, rfl, kv⟩ := voks1 k
    exact ⟨v, d, rfl, Dq.mono' R.sub kv, hk, hs, hp, hz, q.now R (.str _)⟩) (hg := hg) (he := hse)
end
/-! ### defs that know that no guard is up -/
structure FnG (P : Program) (w : World) (K : PySem.W.Frag) (mg : Str → Option Value) (base : Heap) (k : Nat) (f : Addr) (fd : FuncData) (ps : List Str) (sp : Sp) : Prop where
  long : ∀ vs H Q E, sp vs H Q E → vs.length = ps.length
  go : ∀ (A : Around) (out : List Env) (t : Shared) (H : Hp) (args : Args) (us : List Value) (vs : List V) (Q : VK) (E : XK), A.guards = some [] → Room k A → Env0 P w K mg base A out t H → BindsTo t fd args (ps.zip us) → Vals vs us → sp vs H Q E → codeAny (model P w) A (.call (.ref f) args) (CR CX0 out P w H t Q E) t
theorem guards_deeper {A : Around} {env : Env} (h : A.guards = some []) : (A.deeper env).guards = some [] := h
theorem Frag_in {P : Program} {w : World} {K : PySem.W.Frag} {mg : Str → Option Value} {base : Heap} {A : Around} {out : List Env} {t : Shared} {H : Hp} (e : Env0 P w K mg base A out t H) : K.In t.heap := e.mod.kin.keeps fun b o z => (e.bs b o z).1
theorem nol_of {P : Program} {w : World} {K : PySem.W.Frag} {mg : Str → Option Value} {base : Heap} {A : Around} {out : List Env} {t : Shared} {H : Hp} (e : Env0 P w K mg base A out t H) : t.heap.NoLimit := e.mod.nolimit.keeps fun b o z => (e.bs b o z).1
theorem kinds_of {N ps : List Str} {scope : Scope} {us : List Value} {n : Nat} (S : FnScope N ps scope) : ∀ y ∈ ps.zip us, scope.names.lookup y.1 = some .local ∨ (scope.names.lookup y.1 = some .cell ∧ ((cellsFrom n scope.names []).lookup y.1).isSome = true) := by
  rintro ⟨z, v⟩ hz
  rcases S.par z (List.of_mem_zip hz).1 with h | h
  · exact Or.inl h
  · exact Or.inr ⟨h, PySem.W.cellsFrom_some _ _ _ (.inl h)⟩
theorem fnG_of {G : Gv} {x qual : Str} {params : Arguments} {body : List Stmt} {scope : Scope} {f : Addr} {fd : FuncData} {N ps : List Str} {k : Nat} {sp : Sp} (F : FunD G.K x qual params body scope [] [] f fd) (S : FnScope N ps scope) (hlen : ∀ vs H Q E, sp vs H Q E → vs.length = ps.length)
    (hb : ∀ (i : Bi) (vs : List V) (Q : VK), (bX G N qual scope i).A.guards = some [] → Room k (bX G N qual scope i).A → sp vs i.H Q i.E → WB (bX G N qual scope i) body { nx := fun _ H' => Q .non H', rt := Q } (L2.start N vs) i.H) : FnG G.P G.w G.K G.mg G.base (k + 1) f fd ps sp := by
  obtain ⟨oc, od, dV, kV, doc, pm, an, cdv, ct, osl, rfl, lk, hcd, _, _⟩ := F.ex
  constructor
  · exact hlen
  · intro A out t H args us vs Q E hgu hr e0 hbi r hsp
    have hl := hlen vs H Q E hsp
    have kin : G.K.In t.heap := Frag_in e0
    have nol : t.heap.NoLimit := nol_of e0
    have kinds := kinds_of (us := us) (n := t.heap.objs.size + 1) S
    refine codeAny_call_function hr.depth (kin _ _ lk) rfl S.co S.gen rfl (PySem.W.codeRec_of kin hcd) (hbi _ _ _ _ ?_)
    refine wpAny_newFunctionEnv_cells S.kind kinds fun env he t1 hx => ?_
    subst he
    refine ⟨nol.keeps hx.toInCall.keep, codeAny_func ?_⟩
    have I := inv_start (CX := CX0) (mg := G.mg) (base := G.base) (E := E) (P := G.P) (w := G.w) (K := G.K) (N := N) (qual := qual) (scope := scope) (f := f) (cd := cdv) S hr.hd e0 hl r hx
    have W := hb ⟨f, cdv, A, out, t, H, E⟩ vs Q (guards_deeper hgu) (hr.deeper _) hsp
    have Z := (PSs.nox (X := cxOf CX0 G.P G.w G.K G.mg G.base N qual scope f cdv A out t H E) (pbW (X := bX G N qual scope ⟨f, cdv, A, out, t, H, E⟩) (st := body))).run [] t1 (L2.start N vs) H _ I W
    refine wpAny_mono Z (fun fl t' hs => ?_) fun e t' hs => hs
    cases fl with
    | ret u =>
      obtain ⟨v, σ', H', J, rv, q⟩ := hs
      exact ⟨v, H', J.os, J.bare, J.base, J.hok, rv, q⟩
    | next =>
      obtain ⟨σ', H', J, q⟩ := hs
      exact ⟨V.non, H', J.os, J.bare, J.base, J.hok, rfl, q⟩
    | brk =>
      obtain ⟨_, _, _, q⟩ := hs
      exact q.elim
    | cont =>
      obtain ⟨_, _, _, q⟩ := hs
      exact q.elim
end Gu
end
section
set_option linter.all false
namespace Gu
/-! ### reduced fractions -/
def gc (a b : Int) : Int := ((Nat.gcd a.natAbs b.natAbs : Nat) : Int)
def nrm (a b : Int) : Int × Int := (a / gc a b, b / gc a b)
theorem gc_pos {a b : Int} (h : 0 < b) : 0 < gc a b := by
  unfold gc
  have : 0 < Nat.gcd a.natAbs b.natAbs := Nat.gcd_pos_of_pos_right _ (by omega)
  omega
theorem gc_dvd1 (a b : Int) : gc a b ∣ a := Int.ofNat_dvd_left.mpr (Nat.gcd_dvd_left _ _)
theorem gc_dvd2 (a b : Int) : gc a b ∣ b := Int.ofNat_dvd_left.mpr (Nat.gcd_dvd_right _ _)
theorem gc_le {a b : Int} (h : 0 < b) : gc a b ≤ b := Int.le_of_dvd h (gc_dvd2 a b)
theorem nrm_spec {a b : Int} (h : 0 < b) : ∃ g, 0 < g ∧ a = (nrm a b).1 * g ∧ b = (nrm a b).2 * g ∧ 0 < (nrm a b).2 ∧ Nat.Coprime (nrm a b).1.natAbs (nrm a b).2.natAbs := by
  have g0 := gc_pos (a := a) h
  have e1 : a = (nrm a b).1 * gc a b := (Int.ediv_mul_cancel (gc_dvd1 a b)).symm
  have e2 : b = (nrm a b).2 * gc a b := (Int.ediv_mul_cancel (gc_dvd2 a b)).symm
  refine ⟨gc a b, g0, e1, e2, ?_, ?_⟩
  · have : 0 < (nrm a b).2 * gc a b := by rw [← e2]; exact h
    exact Int.pos_of_mul_pos_left this g0
  · have ng : 0 < Nat.gcd a.natAbs b.natAbs := Nat.gcd_pos_of_pos_right _ (by omega)
    have f1 : (nrm a b).1.natAbs = a.natAbs / Nat.gcd a.natAbs b.natAbs := by
      have z : a.natAbs = (nrm a b).1.natAbs * Nat.gcd a.natAbs b.natAbs := by
        have y := congrArg Int.natAbs e1
        rw [Int.natAbs_mul] at y
        exact y
      exact (Nat.div_eq_of_eq_mul_left ng z).symm
    have f2 : (nrm a b).2.natAbs = b.natAbs / Nat.gcd a.natAbs b.natAbs := by
      have z : b.natAbs = (nrm a b).2.natAbs * Nat.gcd a.natAbs b.natAbs := by
        have y := congrArg Int.natAbs e2
        rw [Int.natAbs_mul] at y
        exact y
      exact (Nat.div_eq_of_eq_mul_left ng z).symm
    rw [f1, f2]
    exact Nat.coprime_div_gcd_div_gcd ng
theorem cop_uniq {p q p' q' : Int} (hq : 0 < q) (hq' : 0 < q') (c : Nat.Coprime p.natAbs q.natAbs) (c' : Nat.Coprime p'.natAbs q'.natAbs) (h : p * q' = p' * q) : p = p' ∧ q = q' := by
  have e : p.natAbs * q'.natAbs = p'.natAbs * q.natAbs := by
    rw [← Int.natAbs_mul, ← Int.natAbs_mul, h]
  have d1 : q.natAbs ∣ q'.natAbs := (Nat.Coprime.symm c).dvd_of_dvd_mul_left ⟨p'.natAbs, by rw [e, Nat.mul_comm]⟩
  have d2 : q'.natAbs ∣ q.natAbs := (Nat.Coprime.symm c').dvd_of_dvd_mul_left ⟨p.natAbs, by rw [← e, Nat.mul_comm]⟩
  have eq := Nat.dvd_antisymm d1 d2
  have eq2 : q = q' := by omega
  subst eq2
  exact ⟨Int.eq_of_mul_eq_mul_right (by omega) h, rfl⟩
theorem nrm_eq {a b a' b' : Int} (h : 0 < b) (h' : 0 < b') (e : a * b' = a' * b) : nrm a b = nrm a' b' := by
  obtain ⟨g, g0, e1, e2, q0, c⟩ := nrm_spec (a := a) h
  obtain ⟨g', g0', e1', e2', q0', c'⟩ := nrm_spec (a := a') h'
  have key : (nrm a b).1 * (nrm a' b').2 = (nrm a' b').1 * (nrm a b).2 := by
    generalize (nrm a b).1 = p at *
    generalize (nrm a b).2 = q at *
    generalize (nrm a' b').1 = p' at *
    generalize (nrm a' b').2 = q' at *
    have z : (p * q') * (g * g') = (p' * q) * (g * g') := by
      rw [e1, e2', e1', e2] at e
      grind
    exact Int.eq_of_mul_eq_mul_right (Int.ne_of_gt (Int.mul_pos g0 g0')) z
  obtain ⟨h1, h2⟩ := cop_uniq q0 q0' c c' key
  exact Prod.ext h1 h2
theorem nrm_pos {a b : Int} (h : 0 < b) : 0 < (nrm a b).2 := (nrm_spec h).choose_spec.2.2.2.1
/-- over a common low -/
theorem nrm_add {x y C : Int} (h : 0 < C) : nrm ((nrm x C).1 * (nrm y C).2 + (nrm y C).1 * (nrm x C).2) ((nrm x C).2 * (nrm y C).2) = nrm (x + y) C := by
  obtain ⟨g, g0, e1, e2, q0, c⟩ := nrm_spec (a := x) h
  obtain ⟨g', g0', e1', e2', q0', c'⟩ := nrm_spec (a := y) h
  refine nrm_eq (Int.mul_pos q0 q0') h ?_
  generalize (nrm x C).1 = p at *
  generalize (nrm x C).2 = q at *
  generalize (nrm y C).1 = p' at *
  generalize (nrm y C).2 = q' at *
  grind
theorem nrm_mul {x y C E : Int} (h : 0 < C) (h' : 0 < E) : nrm ((nrm x C).1 * (nrm y E).1) ((nrm x C).2 * (nrm y E).2) = nrm (x * y) (C * E) := by
  obtain ⟨g, g0, e1, e2, q0, c⟩ := nrm_spec (a := x) h
  obtain ⟨g', g0', e1', e2', q0', c'⟩ := nrm_spec (a := y) h'
  refine nrm_eq (Int.mul_pos q0 q0') (Int.mul_pos h h') ?_
  generalize (nrm x C).1 = p at *
  generalize (nrm x C).2 = q at *
  generalize (nrm y E).1 = p' at *
  generalize (nrm y E).2 = q' at *
  grind
/-- one over another, of the same low -/
theorem nrm_over {x y C : Int} (h : 0 < C) (hy : 0 < y) : nrm ((nrm x C).1 * (nrm y C).2) ((nrm x C).2 * (nrm y C).1) = nrm x y := by
  obtain ⟨g, g0, e1, e2, q0, c⟩ := nrm_spec (a := x) h
  obtain ⟨g', g0', e1', e2', q0', c'⟩ := nrm_spec (a := y) h
  have p0 : 0 < (nrm y C).1 := by
    have : 0 < (nrm y C).1 * g' := by rw [← e1']; exact hy
    exact Int.pos_of_mul_pos_left this g0'
  refine nrm_eq (Int.mul_pos q0 p0) hy ?_
  generalize (nrm x C).1 = p at *
  generalize (nrm x C).2 = q at *
  generalize (nrm y C).1 = p' at *
  generalize (nrm y C).2 = q' at *
  grind
theorem nrm_self {a b : Int} (h : 0 < b) (c : Nat.Coprime a.natAbs b.natAbs) : nrm a b = (a, b) := by
  have e : gc a b = 1 := by
    unfold gc
    rw [show Nat.gcd a.natAbs b.natAbs = 1 from c]
    rfl
  unfold nrm
  rw [e, Int.ediv_one, Int.ediv_one]
theorem nrm_zero {C : Int} (h : 0 < C) : nrm 0 C = (0, 1) := by
  rw [nrm_eq (a' := 0) (b' := 1) h (by decide) (by simp)]
  rfl
theorem nrm_le1 {a b : Int} (h : 0 < b) : (nrm a b).1.natAbs ≤ a.natAbs := by
  obtain ⟨g, g0, e1, _⟩ := nrm_spec (a := a) h
  have z := congrArg Int.natAbs e1
  rw [Int.natAbs_mul] at z
  rw [z]
  exact Nat.le_mul_of_pos_right _ (by omega)
theorem nrm_le2 {a b : Int} (h : 0 < b) : (nrm a b).2.natAbs ≤ b.natAbs := by
  obtain ⟨g, g0, _, e2, _⟩ := nrm_spec (a := a) h
  have z := congrArg Int.natAbs e2
  rw [Int.natAbs_mul] at z
  rw [z]
  exact Nat.le_mul_of_pos_right _ (by omega)
theorem nrm_sign {a b : Int} (h : 0 < b) : ((nrm a b).1 < 0 ↔ a < 0) ∧ (0 < (nrm a b).1 ↔ 0 < a) := by
  obtain ⟨g, g0, e1, _⟩ := nrm_spec (a := a) h
  generalize (nrm a b).1 = p at *
  subst e1
  constructor
  · constructor
    · intro z
      exact Int.mul_neg_of_neg_of_pos z g0
    · intro z
      rcases Int.lt_trichotomy p 0 with k | k | k
      · exact k
      · subst k; simp at z
      · have := Int.mul_pos k g0; omega
  · constructor
    · intro z
      exact Int.mul_pos z g0
    · intro z
      rcases Int.lt_trichotomy p 0 with k | k | k
      · have := Int.mul_neg_of_neg_of_pos k g0; omega
      · subst k; simp at z
      · exact k
theorem nrm_cop {a b : Int} (h : 0 < b) : Nat.Coprime (nrm a b).1.natAbs (nrm a b).2.natAbs := (nrm_spec h).choose_spec.2.2.2.2
/-- scaled by the same -/
theorem nrm_scale {a b c : Int} (h : 0 < b) (hc : 0 < c) : nrm (c * a) (c * b) = nrm a b := nrm_eq (Int.mul_pos hc h) h (by grind)
end Gu
end
section
set_option linter.all false
set_option exponentiation.threshold 20000
namespace Gu
def timesP (a b : Int × Int) : Int × Int := nrm (a.1 * b.1) (a.2 * b.2)
def at1 (ws : List (Int × Int)) (s : Nat) : Int × Int := ws.getD s (1, 1)
def minusP (a b : Int × Int) : Int × Int := nrm (a.1 * b.2 - b.1 * a.2) (a.2 * b.2)
def Szp (B : Nat) (p : Int × Int) : Prop := 0 < p.2 ∧ p.1.natAbs < 2 ^ B ∧ p.2.natAbs < 2 ^ B
def Amt (p : Int × Int) : Prop := 0 < p.1 ∧ gc p.1 p.2 = 1 ∧ Szp 40 p
def Str2 (p : Int × Int) : Prop := 0 < p.1 ∧ gc p.1 p.2 = 1 ∧ Szp 300 p
theorem at1_some {ws : List (Int × Int)} {s : Nat} (h : s < ws.length) : ws[s]? = some (at1 ws s) := by
  unfold at1
  rw [List.getD_eq_getElem?_getD, List.getElem?_eq_getElem h]
  rfl
theorem at1_mem {ws : List (Int × Int)} {s : Nat} (h : s < ws.length) : at1 ws s ∈ ws := List.mem_of_getElem? (at1_some h)
theorem mul_lt {a b : Int} {B C : Nat} (h : a.natAbs < 2 ^ B) (k : b.natAbs < 2 ^ C) : (a * b).natAbs < 2 ^ (B + C) := by
  rw [Int.natAbs_mul, Nat.pow_add]
  exact Nat.mul_lt_mul'' h k
theorem nrm_gc1 {p : Int × Int} (h : gc p.1 p.2 = 1) : nrm p.1 p.2 = p := by
  unfold nrm
  rw [h, Int.ediv_one, Int.ediv_one]
/-! ### weights, parts -/
/-- the weight of standing s, the first k seats taken in -/
def wP (ss : List (Int × Int)) (s : Nat) (w : Int × Int) : Nat → Int × Int
  | 0 => w
  | k + 1 => if s.testBit k then timesP (wP ss s w k) (at1 ss k) else wP ss s w k
def pP (ss : List (Int × Int)) (s : Nat) (x : Int) : Nat → Int
  | 0 => x
  | k + 1 => pP ss s x k * (if s.testBit k then (at1 ss k).1 else (at1 ss k).2)
def cP (ss : List (Int × Int)) (C : Int) : Nat → Int
  | 0 => C
  | k + 1 => cP ss C k * (at1 ss k).2
theorem cP_pos {ss : List (Int × Int)} {C : Int} (hC : 0 < C) (h : ∀ t ∈ ss, Str2 t) : ∀ k, k ≤ ss.length → 0 < cP ss C k
  | 0, _ => hC
  | k + 1, hk => Int.mul_pos (cP_pos hC h k (by omega)) (h _ (at1_mem (show k < ss.length by omega))).2.2.1
theorem wP_parts {ss : List (Int × Int)} {s : Nat} {x C : Int} (hC : 0 < C) (h : ∀ t ∈ ss, Str2 t) : ∀ k, k ≤ ss.length → wP ss s (nrm x C) k = nrm (pP ss s x k) (cP ss C k)
  | 0, _ => rfl
  | k + 1, hk => by
    have ih := wP_parts (s := s) (x := x) hC h k (by omega)
    have c0 := cP_pos hC h k (by omega)
    have t := h _ (at1_mem (show k < ss.length by omega))
    unfold wP pP cP
    rw [ih]
    split
    · have e := nrm_mul (x := pP ss s x k) (y := (at1 ss k).1) c0 t.2.2.1
      rw [nrm_gc1 t.2.1] at e
      exact e
    · exact nrm_eq c0 (Int.mul_pos c0 t.2.2.1) (by grind)
theorem pP_pos {ss : List (Int × Int)} {s : Nat} {x : Int} (hx : 0 < x) (h : ∀ t ∈ ss, Str2 t) : ∀ k, k ≤ ss.length → 0 < pP ss s x k
  | 0, _ => hx
  | k + 1, hk => by
    have t := h _ (at1_mem (show k < ss.length by omega))
    unfold pP
    refine Int.mul_pos (pP_pos hx h k (by omega)) ?_
    split
    · exact t.1
    · exact t.2.2.1
theorem pP_lt {ss : List (Int × Int)} {s B : Nat} {x : Int} (hx : x.natAbs < 2 ^ B) (h : ∀ t ∈ ss, Str2 t) : ∀ k, k ≤ ss.length → (pP ss s x k).natAbs < 2 ^ (B + 300 * k)
  | 0, _ => hx
  | k + 1, hk => by
    have t := h _ (at1_mem (show k < ss.length by omega))
    unfold pP
    rw [show B + 300 * (k + 1) = B + 300 * k + 300 by omega]
    refine mul_lt (pP_lt hx h k (by omega)) ?_
    split
    · exact t.2.2.2.1
    · exact t.2.2.2.2
theorem cP_lt {ss : List (Int × Int)} {B : Nat} {C : Int} (hx : C.natAbs < 2 ^ B) (h : ∀ t ∈ ss, Str2 t) : ∀ k, k ≤ ss.length → (cP ss C k).natAbs < 2 ^ (B + 300 * k)
  | 0, _ => hx
  | k + 1, hk => by
    have t := h _ (at1_mem (show k < ss.length by omega))
    unfold cP
    rw [show B + 300 * (k + 1) = B + 300 * k + 300 by omega]
    exact mul_lt (cP_lt hx h k (by omega)) t.2.2.2.2
/-! ### the common low -/
def lcmS (l b : Int) : Int := l * b / gc l b
def lawL (ws : List (Int × Int)) : Int := ws.foldl (fun l w => lcmS l w.2) 1
theorem lcmS_ok {l b : Int} (hl : 0 < l) (hb : 0 < b) : 0 < lcmS l b ∧ l ∣ lcmS l b ∧ b ∣ lcmS l b ∧ lcmS l b ≤ l * b := by
  have g0 := gc_pos (a := l) hb
  obtain ⟨l', e1⟩ := gc_dvd1 l b
  obtain ⟨b', e2⟩ := gc_dvd2 l b
  unfold lcmS
  generalize gc l b = g at *
  subst e1 e2
  have l0 : 0 < l' := Int.pos_of_mul_pos_right hl g0
  have b0 : 0 < b' := Int.pos_of_mul_pos_right hb g0
  have e : g * l' * (g * b') / g = g * l' * b' := by
    rw [show g * l' * (g * b') = (g * l' * b') * g by grind]
    exact Int.mul_ediv_cancel _ (Int.ne_of_gt g0)
  rw [e]
  refine ⟨Int.mul_pos hl b0, ⟨b', rfl⟩, ⟨l', by grind⟩, ?_⟩
  have z : g * l' * b' ≤ g * l' * (g * b') := Int.mul_le_mul_of_nonneg_left (by
    have := Int.mul_le_mul_of_nonneg_right (show (1 : Int) ≤ g by omega) (Int.le_of_lt b0)
    omega) (Int.le_of_lt hl)
  exact z
theorem foldL_ok {ws : List (Int × Int)} (h : ∀ p ∈ ws, Amt p) : ∀ {l : Int} {B : Nat}, 0 < l → l.natAbs < 2 ^ B → 0 < ws.foldl (fun l w => lcmS l w.2) l ∧ l ∣ ws.foldl (fun l w => lcmS l w.2) l ∧ (∀ p ∈ ws, p.2 ∣ ws.foldl (fun l w => lcmS l w.2) l) ∧ (ws.foldl (fun l w => lcmS l w.2) l).natAbs < 2 ^ (B + 40 * ws.length) := by
  induction ws with
  | nil =>
    intro l B hl hB
    exact ⟨hl, Int.dvd_refl _, fun p hp => absurd hp (by simp), by simpa using hB⟩
  | cons w ws ih =>
    intro l B hl hB
    have hw := h w List.mem_cons_self
    obtain ⟨a1, a2, a3, a4⟩ := lcmS_ok hl hw.2.2.1
    have a5 : (lcmS l w.2).natAbs < 2 ^ (B + 40) := by
      refine Nat.lt_of_le_of_lt ?_ (mul_lt hB hw.2.2.2.2)
      omega
    obtain ⟨b1, b2, b3, b4⟩ := ih (fun p hp => h p (List.mem_cons_of_mem _ hp)) a1 a5
    rw [List.foldl_cons]
    refine ⟨b1, Int.dvd_trans a2 b2, fun p hp => ?_, ?_⟩
    · rcases List.mem_cons.mp hp with rfl | hp
      · exact Int.dvd_trans a3 b2
      · exact b3 p hp
    · rw [List.length_cons, show B + 40 * (ws.length + 1) = B + 40 + 40 * ws.length by omega]
      exact b4
theorem lawL_ok {ws : List (Int × Int)} (h : ∀ p ∈ ws, Amt p) (hl : ws.length ≤ 16) : 0 < lawL ws ∧ (∀ p ∈ ws, p.2 ∣ lawL ws) ∧ (lawL ws).natAbs < 2 ^ 641 := by
  obtain ⟨a, _, b, c⟩ := foldL_ok h (l := 1) (B := 1) (by decide) (by decide)
  exact ⟨a, b, Nat.lt_of_lt_of_le c (Nat.pow_le_pow_right (by decide) (by omega))⟩
def whole (ws : List (Int × Int)) (s : Nat) : Int := (at1 ws s).1 * (lawL ws / (at1 ws s).2)
def partsL (ws ss : List (Int × Int)) : List Int := (List.range ws.length).map fun s => pP ss s (whole ws s) ss.length
def lowL (ws ss : List (Int × Int)) : Int := cP ss (lawL ws) ss.length
theorem whole_ok {ws : List (Int × Int)} (h : ∀ p ∈ ws, Amt p) (hl : ws.length ≤ 16) {s : Nat} (hs : s < ws.length) : 0 < whole ws s ∧ (whole ws s).natAbs < 2 ^ 681 ∧ nrm (whole ws s) (lawL ws) = at1 ws s := by
  obtain ⟨l0, ld, ll⟩ := lawL_ok h hl
  have m := at1_mem hs
  have a := h _ m
  obtain ⟨q, e⟩ := ld _ m
  have e2 : lawL ws / (at1 ws s).2 = q := by
    rw [e]
    exact Int.mul_ediv_cancel_left _ (Int.ne_of_gt a.2.2.1)
  have q0 : 0 < q := by
    rw [e] at l0
    exact Int.pos_of_mul_pos_right l0 a.2.2.1
  have q1 : q ≤ lawL ws := by
    rw [e]
    have := Int.mul_le_mul_of_nonneg_right (show (1 : Int) ≤ (at1 ws s).2 by have := a.2.2.1; omega) (Int.le_of_lt q0)
    omega
  unfold whole
  rw [e2]
  refine ⟨Int.mul_pos a.1 q0, ?_, ?_⟩
  · have := mul_lt (b := q) a.2.2.2.1 (show q.natAbs < 2 ^ 641 from Nat.lt_of_le_of_lt (by omega) ll)
    exact this
  · rw [nrm_eq (a' := (at1 ws s).1) (b' := (at1 ws s).2) l0 a.2.2.1 (by rw [e]; grind)]
    exact nrm_gc1 a.2.1
def wAll (ws ss : List (Int × Int)) : List (Int × Int) := (List.range ws.length).map fun s => wP ss s (at1 ws s) ss.length
theorem wAll_parts {ws ss : List (Int × Int)} (h : ∀ p ∈ ws, Amt p) (hl : ws.length ≤ 16) (hs : ∀ t ∈ ss, Str2 t) : wAll ws ss = (partsL ws ss).map fun x => nrm x (lowL ws ss) := by
  unfold wAll partsL
  rw [List.map_map]
  refine List.map_congr_left fun s hm => ?_
  obtain ⟨_, _, e⟩ := whole_ok h hl (List.mem_range.mp hm)
  rw [← e]
  exact wP_parts (lawL_ok h hl).1 hs _ (Nat.le_refl _)
theorem partsL_len (ws ss : List (Int × Int)) : (partsL ws ss).length = ws.length := by
  unfold partsL
  rw [List.length_map, List.length_range]
theorem partsL_pos {ws ss : List (Int × Int)} (h : ∀ p ∈ ws, Amt p) (hl : ws.length ≤ 16) (hs : ∀ t ∈ ss, Str2 t) : ∀ x ∈ partsL ws ss, 0 < x := by
  intro x hx
  obtain ⟨s, hm, rfl⟩ := List.mem_map.mp hx
  exact pP_pos (whole_ok h hl (List.mem_range.mp hm)).1 hs _ (Nat.le_refl _)
theorem partsL_lt {ws ss : List (Int × Int)} (h : ∀ p ∈ ws, Amt p) (hl : ws.length ≤ 16) (hs : ∀ t ∈ ss, Str2 t) (h4 : ss.length ≤ 4) : ∀ x ∈ partsL ws ss, x.natAbs < 2 ^ 1881 := by
  intro x hx
  obtain ⟨s, hm, rfl⟩ := List.mem_map.mp hx
  exact Nat.lt_of_lt_of_le (pP_lt (whole_ok h hl (List.mem_range.mp hm)).2.1 hs _ (Nat.le_refl _)) (Nat.pow_le_pow_right (by decide) (by omega))
theorem sum_lt {xs : List Int} {B : Nat} (h : ∀ x ∈ xs, x.natAbs < 2 ^ B) : xs.sum.natAbs ≤ xs.length * 2 ^ B := by
  induction xs with
  | nil => simp
  | cons x xs ih =>
    have h1 := h x List.mem_cons_self
    have h2 := ih fun y hy => h y (List.mem_cons_of_mem _ hy)
    rw [List.sum_cons, List.length_cons, Nat.succ_mul]
    have := Int.natAbs_add_le x xs.sum
    omega
theorem sum_lt16 {xs : List Int} {B : Nat} (h : ∀ x ∈ xs, x.natAbs < 2 ^ B) (hl : xs.length ≤ 16) : xs.sum.natAbs < 2 ^ (B + 5) := by
  have z := sum_lt h
  have p : 0 < 2 ^ B := Nat.two_pow_pos B
  have y : xs.length * 2 ^ B ≤ 16 * 2 ^ B := Nat.mul_le_mul_right _ hl
  rw [Nat.pow_add]
  omega
theorem lowL_ok {ws ss : List (Int × Int)} (h : ∀ p ∈ ws, Amt p) (hl : ws.length ≤ 16) (hs : ∀ t ∈ ss, Str2 t) (h4 : ss.length ≤ 4) : 0 < lowL ws ss ∧ (lowL ws ss).natAbs < 2 ^ 1841 := by
  obtain ⟨a, _, c⟩ := lawL_ok h hl
  exact ⟨cP_pos a hs _ (Nat.le_refl _), Nat.lt_of_lt_of_le (cP_lt c hs _ (Nat.le_refl _)) (Nat.pow_le_pow_right (by decide) (by omega))⟩
/-! ### shares, pulls -/
def bitsF (n : Nat) (ks : List Nat) : List Nat := (List.range n).filter fun s => ks.all fun k => s.testBit k
def chosen (xs : List Int) (ks : List Nat) : Int := (ks.map fun k => xs.getD k 0).sum
def shareQ (xs : List Int) (ks : List Nat) : Int × Int := nrm (chosen xs (bitsF xs.length ks)) xs.sum
def pullQ (xs : List Int) (i j : Nat) : Int × Int := minusP (shareQ xs [i, j]) (timesP (shareQ xs [i]) (shareQ xs [j]))
theorem getD_mem {xs : List Int} {k : Nat} (h : k < xs.length) : xs.getD k 0 ∈ xs := by
  rw [List.getD_eq_getElem?_getD, List.getElem?_eq_getElem h]
  exact List.getElem_mem h
theorem chosen_lt {xs : List Int} {B : Nat} (h : ∀ x ∈ xs, x.natAbs < 2 ^ B) {ks : List Nat} (hk : ∀ k ∈ ks, k < xs.length) (hl : ks.length ≤ 16) : (chosen xs ks).natAbs < 2 ^ (B + 5) := by
  refine sum_lt16 (fun x hx => ?_) (by rw [List.length_map]; exact hl)
  obtain ⟨k, hm, rfl⟩ := List.mem_map.mp hx
  exact h _ (getD_mem (hk k hm))
theorem bitsF_lt {n : Nat} {ks : List Nat} : ∀ k ∈ bitsF n ks, k < n := fun k hk => List.mem_range.mp (List.mem_filter.mp hk).1
theorem bitsF_len (n : Nat) (ks : List Nat) : (bitsF n ks).length ≤ n := Nat.le_trans (List.length_filter_le _ _) (by rw [List.length_range]; exact Nat.le_refl _)
theorem sum_pos {xs : List Int} (h : ∀ x ∈ xs, 0 < x) (hn : 0 < xs.length) : 0 < xs.sum := by
  cases xs with
  | nil => simp at hn
  | cons x xs =>
    have h1 := h x List.mem_cons_self
    have h2 : ∀ ys : List Int, (∀ y ∈ ys, 0 < y) → 0 ≤ ys.sum := by
      intro ys
      induction ys with
      | nil => intro _; simp
      | cons y ys ih =>
        intro h
        have := h y List.mem_cons_self
        have := ih fun z hz => h z (List.mem_cons_of_mem _ hz)
        rw [List.sum_cons]
        omega
    have := h2 xs fun y hy => h y (List.mem_cons_of_mem _ hy)
    rw [List.sum_cons]
    omega
end Gu
end
section
set_option linter.all false
set_option exponentiation.threshold 20000
namespace Gu
def overP (a b : Int × Int) : Int × Int := nrm (a.1 * b.2) (a.2 * b.1)
def belowP (a b : Int × Int) : Bool := decide (a.1 * b.2 < b.1 * a.2)
def linkP (ws : List (Int × Int)) (i j s : Nat) : Int × Int := overP (timesP (at1 ws (s + 2 ^ i + 2 ^ j)) (at1 ws s)) (timesP (at1 ws (s + 2 ^ i)) (at1 ws (s + 2 ^ j)))
def freeF (n i j : Nat) : List Nat := (List.range n).filter fun s => !s.testBit i && !s.testBit j
def pairsN (n : Nat) : List (Nat × Nat) := (List.range n).flatMap fun i => (List.range (n - (i + 1))).map fun k => (i, i + 1 + k)
structure Car (ws : List (Int × Int)) (n : Nat) : Prop where
  n1 : 1 ≤ n
  n4 : n ≤ 4
  len : ws.length = 2 ^ n
  amt : ∀ p, p ∈ ws → Amt p
  one : ws[0]? = some (1, 1)
/-! ### the first pair that shuns -/
def badP (ws : List (Int × Int)) (i j s : Nat) : Bool := belowP (linkP ws i j s) (1, 1)
def firstAt (ws : List (Int × Int)) (p : Nat × Nat) : Option (Nat × Nat × Nat) := (freeF ws.length p.1 p.2).findSome? fun s => if badP ws p.1 p.2 s then some (p.1, p.2, s) else none
def firstP (ws : List (Int × Int)) (n : Nat) : Option (Nat × Nat × Nat) := (pairsN n).findSome? (firstAt ws)
theorem find_at {α β : Type} {l : List α} {f : α → Option β} {i : Nat} {u : α} {r : β} (h : (l.take i).findSome? f = none) (hu : l[i]? = some u) (hf : f u = some r) : l.findSome? f = some r := by
  have e : l = l.take i ++ u :: l.drop (i + 1) := by
    have hi := (List.getElem?_eq_some_iff.mp hu).1
    have hv := (List.getElem?_eq_some_iff.mp hu).2
    rw [← hv, ← List.drop_eq_getElem_cons hi, List.take_append_drop]
  rw [e, List.findSome?_append, h]
  simp [hf]
theorem find_none_succ {α β : Type} {l : List α} {f : α → Option β} {i : Nat} {u : α} (h : (l.take i).findSome? f = none) (hu : l[i]? = some u) (hf : f u = none) : (l.take (i + 1)).findSome? f = none := by
  rw [List.take_add_one, hu, List.findSome?_append, h]
  simp [hf]
/-! ### strengths that lean -/
def leanA (i j s : Nat) (z : Int) (a : Nat) : Int × Int := if a = i ∨ a = j then (1, 1) else if s.testBit a then (z, 1) else (1, z)
def leanP (n i j s : Nat) (z : Int) : List (Int × Int) := (List.range n).map (leanA i j s z)
theorem gc_one1 (z : Int) : gc z 1 = 1 := by
  unfold gc
  simp
theorem gc_one2 (z : Int) : gc 1 z = 1 := by
  unfold gc
  simp
theorem lean_ok {n i j s t : Nat} (ht : t ≤ 256) : ∀ p ∈ leanP n i j s (2 ^ t), Str2 p := by
  intro p hp
  obtain ⟨a, _, rfl⟩ := List.mem_map.mp hp
  have z0 : (0 : Int) < 2 ^ t := Int.pow_pos (by decide)
  have z1 : ((2 : Int) ^ t).natAbs < 2 ^ 300 := by
    rw [Int.natAbs_pow]
    exact Nat.pow_lt_pow_right (by decide) (by omega)
  have o : (1 : Int).natAbs < 2 ^ 300 := by decide
  unfold leanA
  split
  · exact ⟨by decide, by decide, by decide, o, o⟩
  · split
    · exact ⟨z0, gc_one1 _, Int.one_pos, z1, o⟩
    · exact ⟨Int.one_pos, gc_one2 _, z0, o, z1⟩
def tl : List Nat := [0, 1, 2, 4, 8, 16, 32, 64, 128, 256, 512]
def negB (ws : List (Int × Int)) (n : Nat) (r : Nat × Nat × Nat) (t : Nat) : Bool := decide ((pullQ (partsL ws (leanP n r.1 r.2.1 r.2.2 (2 ^ t))) r.1 r.2.1).1 < 0)
theorem find_negs {α : Type} {l : List α} {f : α → Bool} {k : Nat} {u : α} (h : ∀ k', k' < k → ∀ v, l[k']? = some v → f v = false) (hu : l[k]? = some u) (hf : f u = true) : l.find? f = some u := by
  induction l generalizing k with
  | nil => simp at hu
  | cons a l ih =>
    cases k with
    | zero =>
      cases hu
      simp [hf]
    | succ k =>
      have h0 := h 0 (by omega) a rfl
      rw [List.find?_cons, h0]
      exact ih (fun k' hk v hv => h (k' + 1) (Nat.succ_lt_succ hk) v (by simpa using hv)) (by simpa using hu)
end Gu
end
section
set_option linter.all false
set_option exponentiation.threshold 20000
set_option maxHeartbeats 1000000
set_option maxRecDepth 20000
namespace Gu
/-! ### sums over kinds of standings -/
def sumG (G : Nat → Int) (l : List Nat) : Int := (l.map G).sum
theorem sumG_cons (G : Nat → Int) (a : Nat) (l : List Nat) : sumG G (a :: l) = G a + sumG G l := by
  unfold sumG
  rw [List.map_cons, List.sum_cons]
theorem sumG_split (G : Nat → Int) (p : Nat → Bool) : ∀ l : List Nat, sumG G l = sumG G (l.filter p) + sumG G (l.filter fun t => !p t)
  | [] => rfl
  | a :: l => by
    have ih := sumG_split G p l
    rw [List.filter_cons, List.filter_cons, sumG_cons]
    cases h : p a with
    | true =>
      rw [if_pos rfl, if_neg (by simp), sumG_cons]
      omega
    | false =>
      rw [if_neg (by simp), if_pos (by simp), sumG_cons]
      omega
def clsF (N i j : Nat) (p q : Bool) : List Nat := (List.range N).filter fun t => (t.testBit i == p) && (t.testBit j == q)
theorem filter_cong {l : List Nat} {p q : Nat → Bool} (h : ∀ t, p t = q t) : l.filter p = l.filter q := by
  rw [show p = q from funext h]
theorem cls_both (G : Nat → Int) (N i j : Nat) : sumG G (bitsF N [i, j]) = sumG G (clsF N i j true true) := by
  unfold bitsF clsF
  rw [filter_cong (fun t => ?_)]
  simp
theorem cls_i (G : Nat → Int) (N i j : Nat) : sumG G (bitsF N [i]) = sumG G (clsF N i j true true) + sumG G (clsF N i j true false) := by
  rw [sumG_split G (fun t => t.testBit j) (bitsF N [i])]
  unfold bitsF clsF
  rw [List.filter_filter, List.filter_filter]
  congr 2
  · refine filter_cong fun t => ?_
    cases h1 : t.testBit i <;> cases h2 : t.testBit j <;> simp [h1, h2]
  · refine filter_cong fun t => ?_
    cases h1 : t.testBit i <;> cases h2 : t.testBit j <;> simp [h1, h2]
theorem cls_j (G : Nat → Int) (N i j : Nat) : sumG G (bitsF N [j]) = sumG G (clsF N i j true true) + sumG G (clsF N i j false true) := by
  rw [sumG_split G (fun t => t.testBit i) (bitsF N [j])]
  unfold bitsF clsF
  rw [List.filter_filter, List.filter_filter]
  congr 2
  · refine filter_cong fun t => ?_
    cases h1 : t.testBit i <;> cases h2 : t.testBit j <;> simp [h1, h2]
  · refine filter_cong fun t => ?_
    cases h1 : t.testBit i <;> cases h2 : t.testBit j <;> simp [h1, h2]
theorem cls_all (G : Nat → Int) (N i j : Nat) : sumG G (List.range N) = sumG G (clsF N i j true true) + sumG G (clsF N i j true false) + sumG G (clsF N i j false true) + sumG G (clsF N i j false false) := by
  rw [sumG_split G (fun t => t.testBit i) (List.range N), sumG_split G (fun t => t.testBit j) ((List.range N).filter _), sumG_split G (fun t => t.testBit j) ((List.range N).filter fun t => !t.testBit i)]
  unfold clsF
  rw [List.filter_filter, List.filter_filter, List.filter_filter, List.filter_filter]
  have e : ∀ p q : Bool, ∀ t : Nat, ((t.testBit i == p) && (t.testBit j == q)) = ((t.testBit j == q) && (t.testBit i == p)) := fun p q t => Bool.and_comm _ _
  rw [filter_cong (e true true), filter_cong (e true false), filter_cong (e false true), filter_cong (e false false)]
  have e2 : ∀ (l : List Nat) (a : Nat), (l.filter fun t => t.testBit a == true) = l.filter fun t => t.testBit a := fun l a => filter_cong fun t => by cases t.testBit a <;> rfl
  simp only [beq_true, beq_false]
  omega
theorem chosen_eq {N : Nat} {G : Nat → Int} {ks : List Nat} (h : ∀ k ∈ ks, k < N) : chosen ((List.range N).map G) ks = sumG G ks := by
  unfold chosen sumG
  congr 1
  refine List.map_congr_left fun k hk => ?_
  rw [List.getD_eq_getElem?_getD, List.getElem?_map, List.getElem?_range (h k hk)]
  rfl
/-! ### the sign of a pull -/
theorem Int.neg_of_mul_neg_left' {a b : Int} (ha : 0 < a) (h : a * b < 0) : b < 0 := by
  rcases Int.lt_or_le b 0 with q | q
  · exact q
  · have := Int.mul_nonneg (Int.le_of_lt ha) q
    omega
theorem pull_sign {N : Nat} {G : Nat → Int} {i j : Nat} (hN : 0 < sumG G (List.range N)) :
    (pullQ ((List.range N).map G) i j).1 < 0 ↔ sumG G (clsF N i j false false) * sumG G (clsF N i j true true) < sumG G (clsF N i j true false) * sumG G (clsF N i j false true) := by
  have e0 : ((List.range N).map G).sum = sumG G (List.range N) := rfl
  have el : ((List.range N).map G).length = N := by rw [List.length_map, List.length_range]
  unfold pullQ shareQ
  rw [el, e0, chosen_eq (fun k hk => bitsF_lt k hk), chosen_eq (fun k hk => bitsF_lt k hk), chosen_eq (fun k hk => bitsF_lt k hk), cls_both, cls_i G N i j, cls_j G N i j]
  have ea := cls_all G N i j
  generalize sumG G (List.range N) = T at *
  generalize sumG G (clsF N i j true true) = b at *
  generalize sumG G (clsF N i j true false) = c at *
  generalize sumG G (clsF N i j false true) = d at *
  generalize sumG G (clsF N i j false false) = a at *
  have em : timesP (nrm (b + c) T) (nrm (b + d) T) = nrm ((b + c) * (b + d)) (T * T) := nrm_mul hN hN
  have hTT := Int.mul_pos hN hN
  rw [em]
  obtain ⟨g, g0, g1, g2, g3, _⟩ := nrm_spec (a := b) hN
  obtain ⟨h, h0, h1, h2, h3, _⟩ := nrm_spec (a := (b + c) * (b + d)) hTT
  generalize nrm b T = u at *
  generalize nrm ((b + c) * (b + d)) (T * T) = v at *
  unfold minusP
  rw [(nrm_sign (Int.mul_pos g3 h3)).1]
  have gh := Int.mul_pos g0 h0
  have k1 : (u.1 * v.2 - v.1 * u.2) * (g * h) = T * (a * b - c * d) := by
    have q1 : u.1 * v.2 * (g * h) = (u.1 * g) * (v.2 * h) := by grind
    have q2 : v.1 * u.2 * (g * h) = (v.1 * h) * (u.2 * g) := by grind
    rw [Int.sub_mul, q1, q2, ← g1, ← g2, ← h1, ← h2, ea]
    grind
  constructor
  · intro hl
    have z : (u.1 * v.2 - v.1 * u.2) * (g * h) < 0 := Int.mul_neg_of_neg_of_pos hl gh
    rw [k1] at z
    have := Int.neg_of_mul_neg_left' hN z
    omega
  · intro hl
    have z : T * (a * b - c * d) < 0 := Int.mul_neg_of_pos_of_neg hN (by omega)
    rw [← k1] at z
    have := Int.neg_of_mul_neg_left' gh (by rw [Int.mul_comm]; exact z)
    omega
end Gu
namespace Gu
/-! ### strengths that lean: how far a standing agrees -/
def agr (i j s t : Nat) : Nat → Nat
  | 0 => 0
  | k + 1 => agr i j s t k + (if k = i ∨ k = j then 0 else if t.testBit k = s.testBit k then 1 else 0)
theorem at1_lean {n i j s k : Nat} {z : Int} (h : k < n) : at1 (leanP n i j s z) k = leanA i j s z k := by
  unfold at1 leanP
  rw [List.getD_eq_getElem?_getD, List.getElem?_map, List.getElem?_range h]
  rfl
theorem pP_lean {n i j s t : Nat} {z x : Int} : ∀ k, k ≤ n → pP (leanP n i j s z) t x k = x * z ^ agr i j s t k
  | 0, _ => by
    unfold pP agr
    rw [Int.pow_zero, Int.mul_one]
  | k + 1, hk => by
    unfold pP agr
    rw [pP_lean k (by omega), at1_lean (by omega), Int.pow_add, ← Int.mul_assoc]
    congr 1
    unfold leanA
    by_cases h1 : k = i ∨ k = j
    · rw [if_pos h1, if_pos h1]
      simp
    · rw [if_neg h1, if_neg h1]
      cases t.testBit k <;> cases s.testBit k <;> simp [Int.pow_succ]
def topO (i j s : Nat) (p q : Bool) : Nat := s + (if p then 2 ^ i else 0) + (if q then 2 ^ j else 0)
def combB (n i j s : Nat) (p q : Bool) : Bool :=
  decide (topO i j s p q < 2 ^ n) && ((clsF (2 ^ n) i j p q).contains (topO i j s p q) && (decide ((clsF (2 ^ n) i j p q).length ≤ 4) && (decide (agr i j s (topO i j s p q) n = n - 2) &&
    (clsF (2 ^ n) i j p q).all fun t => t == topO i j s p q || decide (agr i j s t n + 1 ≤ n - 2))))
def combA (n : Nat) : Bool := (List.range n).all fun i => (List.range n).all fun j => decide (j ≤ i) || (List.range (2 ^ n)).all fun s => s.testBit i || (s.testBit j || (combB n i j s true true && (combB n i j s true false && (combB n i j s false true && combB n i j s false false))))
theorem comb_ok : ∀ n, n < 5 → combA n = true := by decide +kernel
theorem comb_at {n i j s : Nat} (hn : n ≤ 4) (hj : j < n) (hij : i < j) (hs : s < 2 ^ n) (h1 : s.testBit i = false) (h2 : s.testBit j = false) (p q : Bool) : combB n i j s p q = true := by
  have z := comb_ok n (by omega)
  unfold combA at z
  have z1 := List.all_eq_true.mp z i (List.mem_range.mpr (by omega))
  have z2 := List.all_eq_true.mp z1 j (List.mem_range.mpr hj)
  rw [decide_eq_false (by omega), Bool.false_or] at z2
  have z3 := List.all_eq_true.mp z2 s (List.mem_range.mpr hs)
  rw [h1, h2, Bool.false_or, Bool.false_or] at z3
  simp only [Bool.and_eq_true] at z3
  obtain ⟨a, b, c, d⟩ := z3
  cases p <;> cases q <;> assumption
theorem sum_rest {G : Nat → Int} {z B : Int} : ∀ {l : List Nat}, (∀ t ∈ l, 0 ≤ G t ∧ z * G t ≤ B) → 0 ≤ sumG G l ∧ z * sumG G l ≤ (l.length : Nat) * B
  | [], _ => by simp [sumG]
  | a :: l, h => by
    obtain ⟨h1, h2⟩ := h a List.mem_cons_self
    obtain ⟨h3, h4⟩ := sum_rest (l := l) fun t ht => h t (List.mem_cons_of_mem _ ht)
    rw [sumG_cons, List.length_cons, Int.mul_add, Int.natCast_add, Int.add_mul]
    omega
theorem sum_top {G : Nat → Int} {z B : Int} {o : Nat} : ∀ {l : List Nat}, o ∈ l → l.Nodup → (∀ t ∈ l, t ≠ o → 0 ≤ G t ∧ z * G t ≤ B) → ∃ r, sumG G l = G o + r ∧ 0 ≤ r ∧ z * r ≤ ((l.length - 1 : Nat) : Int) * B
  | [], h, _, _ => by cases h
  | a :: l, h, hn, hl => by
    obtain ⟨n1, n2⟩ := List.nodup_cons.mp hn
    by_cases e : a = o
    · subst e
      obtain ⟨h3, h4⟩ := sum_rest (G := G) (z := z) (B := B) (l := l) fun t ht => hl t (List.mem_cons_of_mem _ ht) fun q => n1 (q ▸ ht)
      exact ⟨_, sumG_cons _ _ _, h3, h4⟩
    · have ho : o ∈ l := by
        rcases List.mem_cons.mp h with q | q
        · exact absurd q.symm e
        · exact q
      obtain ⟨r, r1, r2, r3⟩ := sum_top ho n2 fun t ht => hl t (List.mem_cons_of_mem _ ht)
      obtain ⟨h1, h2⟩ := hl a List.mem_cons_self e
      have l1 : 1 ≤ l.length := List.length_pos_of_mem ho
      refine ⟨G a + r, by rw [sumG_cons, r1]; omega, by omega, ?_⟩
      have e2 : (((a :: l).length - 1 : Nat) : Int) = ((l.length - 1 : Nat) : Int) + 1 := by
        rw [List.length_cons]
        omega
      rw [e2, Int.mul_add, Int.add_mul]
      omega
/-- the four greatest parts decide -/
theorem core {z zm M a b c d ra rb rc rd : Int} (hz : 1 ≤ z) (hm : 1 ≤ zm) (a0 : 0 ≤ a) (aM : a ≤ M) (b0 : 0 ≤ b) (bM : b ≤ M) (c0 : 0 ≤ c) (d0 : 0 ≤ d) (ra0 : 0 ≤ ra) (rb0 : 0 ≤ rb) (rc0 : 0 ≤ rc) (rd0 : 0 ≤ rd)
    (ha : z * ra ≤ 3 * (M * zm)) (hb : z * rb ≤ 3 * (M * zm)) (h : 15 * (M * M) < z * (c * d - a * b)) : (a * zm + ra) * (b * zm + rb) < (c * zm + rc) * (d * zm + rd) := by
  have m0 : 0 ≤ M * zm := Int.mul_nonneg (by omega) (by omega)
  have zr : ra ≤ z * ra := by
    have := Int.mul_le_mul_of_nonneg_right hz ra0
    omega
  have t1 : a * zm * (z * rb) ≤ M * zm * (3 * (M * zm)) := by
    have x : a * zm ≤ M * zm := Int.mul_le_mul_of_nonneg_right aM (by omega)
    have y : 0 ≤ z * rb := Int.mul_nonneg (by omega) rb0
    have w := Int.mul_le_mul x hb y m0
    exact w
  have t2 : b * zm * (z * ra) ≤ M * zm * (3 * (M * zm)) := by
    have x : b * zm ≤ M * zm := Int.mul_le_mul_of_nonneg_right bM (by omega)
    have y : 0 ≤ z * ra := Int.mul_nonneg (by omega) ra0
    have w := Int.mul_le_mul x ha y m0
    exact w
  have t3 : ra * (z * rb) ≤ 3 * (M * zm) * (3 * (M * zm)) := by
    have y : 0 ≤ z * rb := Int.mul_nonneg (by omega) rb0
    exact Int.mul_le_mul (by omega) hb y (by omega)
  have zz : 0 < zm * zm := Int.mul_pos (by omega) (by omega)
  have t4 : 15 * (M * M) * (zm * zm) < z * (c * d - a * b) * (zm * zm) := Int.mul_lt_mul_of_pos_right h zz
  have t5 : 0 ≤ z * (c * zm * rd + rc * (d * zm) + rc * rd) := by
    refine Int.mul_nonneg (by omega) ?_
    have p1 := Int.mul_nonneg (Int.mul_nonneg c0 (show 0 ≤ zm by omega)) rd0
    have p2 := Int.mul_nonneg rc0 (Int.mul_nonneg d0 (show 0 ≤ zm by omega))
    have p3 := Int.mul_nonneg rc0 rd0
    omega
  have e : z * ((c * zm + rc) * (d * zm + rd) - (a * zm + ra) * (b * zm + rb)) = z * (c * d - a * b) * (zm * zm) + z * (c * zm * rd + rc * (d * zm) + rc * rd) - a * zm * (z * rb) - b * zm * (z * ra) - ra * (z * rb) := by grind
  have e2 : M * zm * (3 * (M * zm)) = 3 * (M * M * (zm * zm)) := by grind
  have e3 : 3 * (M * zm) * (3 * (M * zm)) = 9 * (M * M * (zm * zm)) := by grind
  have e4 : 15 * (M * M) * (zm * zm) = 15 * (M * M * (zm * zm)) := by grind
  rw [e2] at t1 t2
  rw [e3] at t3
  rw [e4] at t4
  have fin : 0 < z * ((c * zm + rc) * (d * zm + rd) - (a * zm + ra) * (b * zm + rb)) := by
    rw [e]
    generalize z * (c * d - a * b) * (zm * zm) = x1 at *
    generalize z * (c * zm * rd + rc * (d * zm) + rc * rd) = x2 at *
    generalize M * M * (zm * zm) = x3 at *
    generalize a * zm * (z * rb) = x4 at *
    generalize b * zm * (z * ra) = x5 at *
    generalize ra * (z * rb) = x6 at *
    omega
  rcases Int.lt_or_le ((a * zm + ra) * (b * zm + rb)) ((c * zm + rc) * (d * zm + rd)) with q | q
  · exact q
  · have := Int.mul_nonneg (show 0 ≤ z by omega) (show 0 ≤ (a * zm + ra) * (b * zm + rb) - (c * zm + rc) * (d * zm + rd) by omega)
    have e5 : z * ((a * zm + ra) * (b * zm + rb) - (c * zm + rc) * (d * zm + rd)) = -(z * ((c * zm + rc) * (d * zm + rd) - (a * zm + ra) * (b * zm + rb))) := by grind
    omega
/-- a link below 1 -/
theorem bad_cross {ws : List (Int × Int)} (h : ∀ p ∈ ws, Amt p) {i j s : Nat} (hl : s + 2 ^ i + 2 ^ j < ws.length) (hb : badP ws i j s = true) :
    (at1 ws (s + 2 ^ i + 2 ^ j)).1 * (at1 ws s).1 * ((at1 ws (s + 2 ^ i)).2 * (at1 ws (s + 2 ^ j)).2) < (at1 ws (s + 2 ^ i)).1 * (at1 ws (s + 2 ^ j)).1 * ((at1 ws (s + 2 ^ i + 2 ^ j)).2 * (at1 ws s).2) := by
  have l1 : s + 2 ^ i < ws.length := Nat.lt_of_le_of_lt (Nat.le_add_right _ _) hl
  have l0 : s < ws.length := Nat.lt_of_le_of_lt (Nat.le_add_right _ _) l1
  have l2 : s + 2 ^ j < ws.length := Nat.lt_of_le_of_lt (by rw [Nat.add_right_comm]; exact Nat.le_add_right _ _) hl
  have z := of_decide_eq_true hb
  unfold linkP at z
  obtain ⟨b1, _, b2, _⟩ := h _ (at1_mem (s := s + 2 ^ i + 2 ^ j) hl)
  obtain ⟨a1, _, a2, _⟩ := h _ (at1_mem (s := s) l0)
  obtain ⟨c1, _, c2, _⟩ := h _ (at1_mem (s := s + 2 ^ i) l1)
  obtain ⟨d1, _, d2, _⟩ := h _ (at1_mem (s := s + 2 ^ j) l2)
  generalize at1 ws (s + 2 ^ i + 2 ^ j) = b at *
  generalize at1 ws s = a at *
  generalize at1 ws (s + 2 ^ i) = c at *
  generalize at1 ws (s + 2 ^ j) = d at *
  unfold timesP at z
  have pb := Int.mul_pos b2 a2
  have pc := Int.mul_pos c2 d2
  have pc1 := Int.mul_pos c1 d1
  obtain ⟨g, g0, g1, g2, g3, _⟩ := nrm_spec (a := b.1 * a.1) pb
  obtain ⟨k, k0, k1, k2, k3, _⟩ := nrm_spec (a := c.1 * d.1) pc
  have k4 := (nrm_sign (a := c.1 * d.1) pc).2.mpr pc1
  generalize nrm (b.1 * a.1) (b.2 * a.2) = u at *
  generalize nrm (c.1 * d.1) (c.2 * d.2) = v at *
  unfold overP at z
  have pv := Int.mul_pos g3 k4
  obtain ⟨m, m0, m1, m2, m3, _⟩ := nrm_spec (a := u.1 * v.2) pv
  generalize nrm (u.1 * v.2) (u.2 * v.1) = w at *
  rw [show ((1, 1) : Int × Int).2 = 1 from rfl, show ((1, 1) : Int × Int).1 = 1 from rfl, Int.mul_one, Int.one_mul] at z
  have z2 : u.1 * v.2 < u.2 * v.1 := by
    rw [m1, m2]
    exact Int.mul_lt_mul_of_pos_right z m0
  have z3 := Int.mul_lt_mul_of_pos_right z2 (Int.mul_pos g0 k0)
  rw [g1, g2, k1, k2]
  have e1 : u.1 * g * (v.2 * k) = u.1 * v.2 * (g * k) := by grind
  have e2 : v.1 * k * (u.2 * g) = u.2 * v.1 * (g * k) := by grind
  rw [e1, e2]
  exact z3
end Gu

namespace Gu
/-- a whole weight and its fraction -/
theorem whole_frac {ws : List (Int × Int)} (h : ∀ p ∈ ws, Amt p) (hl : ws.length ≤ 16) {s : Nat} (hs : s < ws.length) : whole ws s * (at1 ws s).2 = (at1 ws s).1 * lawL ws ∧ whole ws s ≤ 2 ^ 40 * lawL ws := by
  obtain ⟨l0, ld, ll⟩ := lawL_ok h hl
  have m := at1_mem hs
  have a := h _ m
  obtain ⟨q, e⟩ := ld _ m
  have e2 : lawL ws / (at1 ws s).2 = q := by
    rw [e]
    exact Int.mul_ediv_cancel_left _ (Int.ne_of_gt a.2.2.1)
  have q0 : 0 < q := by
    rw [e] at l0
    exact Int.pos_of_mul_pos_right l0 a.2.2.1
  have q1 : q ≤ lawL ws := by
    rw [e]
    have := Int.mul_le_mul_of_nonneg_right (show (1 : Int) ≤ (at1 ws s).2 by have := a.2.2.1; omega) (Int.le_of_lt q0)
    omega
  unfold whole
  rw [e2]
  refine ⟨?_, ?_⟩
  · conv => rhs; rw [e]
    grind
  · have b := a.2.2.2.1
    have c := a.1
    exact Int.mul_le_mul (by omega) q1 (Int.le_of_lt q0) (by decide)
/-- numbers: 2^256 is enough -/
theorem gap {L pa pb pc pd qa qb qc qd a b c d : Int} (L0 : 0 < L) (qa0 : 0 < qa) (qb0 : 0 < qb) (qc0 : 0 < qc) (qd0 : 0 < qd) (qa1 : qa ≤ 2 ^ 40) (qb1 : qb ≤ 2 ^ 40) (qc1 : qc ≤ 2 ^ 40) (qd1 : qd ≤ 2 ^ 40)
    (ha : a * qa = pa * L) (hb : b * qb = pb * L) (hc : c * qc = pc * L) (hd : d * qd = pd * L) (h : pb * pa * (qc * qd) < pc * pd * (qb * qa)) : 15 * ((2 ^ 40 * L) * (2 ^ 40 * L)) < 2 ^ 256 * (c * d - a * b) := by
  have LL := Int.mul_pos L0 L0
  have Q0 : 0 < qa * qb * (qc * qd) := Int.mul_pos (Int.mul_pos qa0 qb0) (Int.mul_pos qc0 qd0)
  have Q1 : qa * qb * (qc * qd) ≤ 2 ^ 80 * 2 ^ 80 := by
    have x : qa * qb ≤ 2 ^ 40 * 2 ^ 40 := Int.mul_le_mul qa1 qb1 (by omega) (by decide)
    have y : qc * qd ≤ 2 ^ 40 * 2 ^ 40 := Int.mul_le_mul qc1 qd1 (by omega) (by decide)
    exact Int.mul_le_mul x y (Int.le_of_lt (Int.mul_pos qc0 qd0)) (by decide)
  have e : (c * d - a * b) * (qa * qb * (qc * qd)) = (pc * pd * (qb * qa) - pb * pa * (qc * qd)) * (L * L) := by
    have e1 : (c * d - a * b) * (qa * qb * (qc * qd)) = (c * qc) * (d * qd) * (qb * qa) - (b * qb) * (a * qa) * (qc * qd) := by grind
    rw [e1, ha, hb, hc, hd]
    grind
  have k1 : L * L ≤ (c * d - a * b) * (qa * qb * (qc * qd)) := by
    rw [e]
    have := Int.mul_le_mul_of_nonneg_right (show (1 : Int) ≤ pc * pd * (qb * qa) - pb * pa * (qc * qd) by omega) (Int.le_of_lt LL)
    omega
  rcases Int.lt_or_le (15 * ((2 ^ 40 * L) * (2 ^ 40 * L))) (2 ^ 256 * (c * d - a * b)) with q | q
  · exact q
  · exfalso
    have w := Int.mul_le_mul_of_nonneg_right q (Int.le_of_lt Q0)
    rw [Int.mul_assoc] at w
    generalize (c * d - a * b) * (qa * qb * (qc * qd)) = x at *
    generalize qa * qb * (qc * qd) = y at *
    have e3 : 15 * (2 ^ 40 * L * (2 ^ 40 * L)) * y = 15 * 2 ^ 80 * ((L * L) * y) := by grind
    rw [e3] at w
    have v := Int.mul_le_mul_of_nonneg_left Q1 (Int.le_of_lt LL)
    generalize L * L * y = u at *
    generalize L * L = t at *
    omega
theorem neg256 {ws : List (Int × Int)} {n : Nat} (h : Car ws n) {r : Nat × Nat × Nat} (hr : firstP ws n = some r) : negB ws n r 256 = true := by
  have mem : r.1 < r.2.1 ∧ r.2.1 < n ∧ r.2.2 < 2 ^ n ∧ r.2.2.testBit r.1 = false ∧ r.2.2.testBit r.2.1 = false ∧ badP ws r.1 r.2.1 r.2.2 = true := by
    obtain ⟨p, hp, e⟩ := List.exists_of_findSome?_eq_some hr
    obtain ⟨s, hs, e2⟩ := List.exists_of_findSome?_eq_some e
    obtain ⟨i, hi, hp2⟩ := List.mem_flatMap.mp hp
    obtain ⟨k, hk, rfl⟩ := List.mem_map.mp hp2
    obtain ⟨hs1, hs2⟩ := List.mem_filter.mp hs
    rw [h.len] at hs1
    simp only [Bool.and_eq_true, Bool.not_eq_true'] at hs2
    rw [List.mem_range] at hi hk hs1
    split at e2
    · rename_i hb
      cases e2
      exact ⟨by show i < i + 1 + k; omega, by show i + 1 + k < n; omega, hs1, hs2.1, hs2.2, hb⟩
    · cases e2
  obtain ⟨i, j, s⟩ := r
  obtain ⟨hij, hj, hs, h1, h2, hb⟩ := mem
  simp only at hij hj hs h1 h2 hb
  have h4 := h.n4
  have l16 : ws.length ≤ 16 := by
    rw [h.len]
    exact Nat.le_trans (Nat.pow_le_pow_right (by decide) h4) (by decide)
  have L0 := (lawL_ok h.amt l16).1
  unfold negB
  refine decide_eq_true ?_
  show (pullQ (partsL ws (leanP n i j s (2 ^ 256))) i j).1 < 0
  have hz : (1 : Int) ≤ 2 ^ 256 := by decide
  generalize ez : (2 : Int) ^ 256 = z at hz
  have eG : partsL ws (leanP n i j s z) = (List.range (2 ^ n)).map fun t => whole ws t * z ^ agr i j s t n := by
    unfold partsL
    rw [h.len]
    refine List.map_congr_left fun t ht => ?_
    have len : (leanP n i j s z).length = n := by unfold leanP; rw [List.length_map, List.length_range]
    rw [len]
    exact pP_lean n (Nat.le_refl _)
  rw [eG]
  have zp : ∀ m : Nat, (1 : Int) ≤ z ^ m := fun m => Int.pow_pos (by omega)
  have wpos : ∀ t, t < 2 ^ n → 0 < whole ws t := fun t ht => (whole_ok h.amt l16 (by rw [h.len]; exact ht)).1
  have wM : ∀ t, t < 2 ^ n → whole ws t ≤ 2 ^ 40 * lawL ws := fun t ht => (whole_frac h.amt l16 (by rw [h.len]; exact ht)).2
  have gpos : ∀ t, t < 2 ^ n → 0 < whole ws t * z ^ agr i j s t n := fun t ht => Int.mul_pos (wpos t ht) (zp _)
  generalize eGf : (fun t => whole ws t * z ^ agr i j s t n) = G
  have eGt : ∀ t, G t = whole ws t * z ^ agr i j s t n := fun t => by rw [← eGf]
  have part : ∀ p q : Bool, ∃ o r, o = topO i j s p q ∧ o < 2 ^ n ∧ sumG G (clsF (2 ^ n) i j p q) = whole ws o * z ^ (n - 2) + r ∧ 0 ≤ r ∧ z * r ≤ 3 * ((2 ^ 40 * lawL ws) * z ^ (n - 2)) := by
    intro p q
    have c := comb_at h4 hj hij hs h1 h2 p q
    unfold combB at c
    simp only [Bool.and_eq_true, decide_eq_true_eq, List.contains_iff_mem, List.all_eq_true, Bool.or_eq_true, beq_iff_eq] at c
    obtain ⟨c1, c2, c3, c4, c5⟩ := c
    generalize topO i j s p q = o at *
    have B0 : 0 ≤ 2 ^ 40 * lawL ws * z ^ (n - 2) := Int.mul_nonneg (Int.mul_nonneg (by decide) (Int.le_of_lt L0)) (by have := zp (n - 2); omega)
    obtain ⟨r, r1, r2, r3⟩ := sum_top (G := G) (z := z) (B := 2 ^ 40 * lawL ws * z ^ (n - 2)) c2 (List.nodup_range.filter _) fun t ht hto => by
      have tn : t < 2 ^ n := List.mem_range.mp (List.mem_filter.mp ht).1
      have ag : agr i j s t n + 1 ≤ n - 2 := (c5 t ht).resolve_left hto
      rw [eGt]
      refine ⟨Int.le_of_lt (gpos t tn), ?_⟩
      have e : z * (whole ws t * z ^ agr i j s t n) = whole ws t * z ^ (agr i j s t n + 1) := by
        rw [Int.pow_succ]
        grind
      rw [e]
      have pl : z ^ (agr i j s t n + 1) ≤ z ^ (n - 2) := by
        obtain ⟨k, hk⟩ := Nat.le.dest ag
        rw [← hk, Int.pow_add z (agr i j s t n + 1) k]
        have y := Int.mul_le_mul_of_nonneg_left (zp k) (show 0 ≤ z ^ (agr i j s t n + 1) from Int.le_trans (by decide) (zp (agr i j s t n + 1)))
        rw [Int.mul_one] at y
        exact y
      exact Int.mul_le_mul (wM t tn) pl (by have := zp (agr i j s t n + 1); omega) (Int.mul_nonneg (by decide) (Int.le_of_lt L0))
    rw [eGt, c4] at r1
    refine ⟨o, r, rfl, c1, r1, r2, Int.le_trans r3 ?_⟩
    exact Int.mul_le_mul_of_nonneg_right (by omega) B0
  have tot : 0 < sumG G (List.range (2 ^ n)) := sum_pos (fun x hx => by
    obtain ⟨t, ht, rfl⟩ := List.mem_map.mp hx
    rw [eGt]
    exact gpos t (List.mem_range.mp ht)) (by rw [List.length_map, List.length_range]; exact Nat.two_pow_pos n)
  refine (pull_sign (G := G) tot).mpr ?_
  obtain ⟨oa, ra, ea, la, sa, ra0, ra1⟩ := part false false
  obtain ⟨ob, rb, eb, lb, sb, rb0, rb1⟩ := part true true
  obtain ⟨oc, rc, ec, lc, sc, rc0, _⟩ := part true false
  obtain ⟨od, rd, ed, ld, sd, rd0, _⟩ := part false true
  rw [sa, sb, sc, sd]
  have fa : oa = s := ea
  have fb : ob = s + 2 ^ i + 2 ^ j := eb
  have fc : oc = s + 2 ^ i := ec
  have fd : od = s + 2 ^ j := ed
  refine core hz (zp _) (Int.le_of_lt (wpos _ la)) (wM _ la) (Int.le_of_lt (wpos _ lb)) (wM _ lb) (Int.le_of_lt (wpos _ lc)) (Int.le_of_lt (wpos _ ld)) ra0 rb0 rc0 rd0 ra1 rb1 ?_
  have x := bad_cross h.amt (i := i) (j := j) (s := s) (by rw [h.len, ← fb]; exact lb) hb
  rw [← fb, ← fc, ← fd, ← fa] at x
  rw [← h.len] at la lb lc ld
  obtain ⟨_, _, a1, _, a2⟩ := h.amt _ (at1_mem la)
  obtain ⟨_, _, b1, _, b2⟩ := h.amt _ (at1_mem lb)
  obtain ⟨_, _, c1, _, c2⟩ := h.amt _ (at1_mem lc)
  obtain ⟨_, _, d1, _, d2⟩ := h.amt _ (at1_mem ld)
  rw [← ez]
  exact gap L0 a1 b1 c1 d1 (by omega) (by omega) (by omega) (by omega) (whole_frac h.amt l16 la).1 (whole_frac h.amt l16 lb).1 (whole_frac h.amt l16 lc).1 (whole_frac h.amt l16 ld).1 x
end Gu
end
section
set_option Elab.async false
set_option linter.all false
set_option maxRecDepth 100000
set_option maxHeartbeats 1000000
namespace Gu
open PySem PySem.Spec PyProof.Rows L2
/-! ### what the walk leans on -/
structure Gd (G : Gv) : Prop where
  c : He.SaysD fgA fnA G.K
  X : ∃ h, G.K.In h ∧ h.Ns mainGlobals G.mg
  ex : exB G.K = true
abbrev DefG (G : Gv) (x : Str) (k : Nat) (sp : Sp) : Prop := Def G.P G.w G.K G.mg G.base x k sp
section
variable {G : Gv}
theorem Gd.glo (c : Gd G) (i : Nat) {x : Str} (h : fgA[i]? = some (.glo x) := by rfl) : G.mg x = some (.ref (He.ga G.K x)) := let ⟨_, X, N⟩ := c.X; He.glo_ok X N (c.c.fact i h)
theorem Gd.fr (c : Gd G) (i : Nat) {x : Str} (h : fgA[i]? = some (.free x) := by rfl) : G.mg x = none := let ⟨_, X, N⟩ := c.X; He.free_ok X N (c.c.fact i h)
theorem Gd.df (c : Gd G) (i : Nat) {x : Str} {p k : Nat} {ps : List Str} {sp : Sp} (h : fnA[i]? = some (dd x p)) (hg : fgA[i]? = some (.glo x))
    (hb : ∀ (kV doc pm : Value) (an : Option Addr) (cdv ct : Value) (us : List Value), us.length = ps.length → bindArgs (PySem.W.fnOf x x (defArgs (topS p)) (defBody (topS p)) (defScope (topS p)) .none kV doc pm an cdv ct) ⟨us, []⟩ = pure (ps.zip us))
    (F : ∀ (f : Addr) (fd : FuncData), FunD G.K x x (defArgs (topS p)) (defBody (topS p)) (defScope (topS p)) [] [] f fd → FnOk G.P G.w G.K G.mg G.base CX0 k f fd ps sp) : DefG G x k sp := by
  obtain ⟨fd, f⟩ := c.c.def_ i h
  have hm := c.glo i hg
  exact ⟨_, fd, ps, F _ fd f, hm, f.kp, FunD.bindsN f hb⟩
theorem Gd.tup (c : Gd G) : exB G.K = true := c.ex
theorem ex_and {a b : Bool} (h : (a && b) = true) : a = true ∧ b = true := by
  cases a <;> cases b <;> first | exact ⟨rfl, rfl⟩ | cases h
theorem Gd.gcd (c : Gd G) : G.mg "gcd" = some (.builtin "math.gcd") := by
  obtain ⟨h, X, N⟩ := c.X
  obtain ⟨c1, _⟩ := ex_and c.ex
  have e := He.eqO_ok c1
  exact PySem.W.mg_of X N e
theorem Gd.zero (c : Gd G) (D : Hp) : Dq G.K D (.ref (He.ga G.K "ZERO")) (.tuple [.int 0, .int 1]) := by
  obtain ⟨_, c1⟩ := ex_and c.ex
  obtain ⟨c1, _⟩ := ex_and c1
  exact .tup (He.tupB_ok c1 D) (.cons (.int 0) (.cons (.int 1) .nil))
theorem Gd.one (c : Gd G) (D : Hp) : Dq G.K D (.ref (He.ga G.K "ONE")) (.tuple [.int 1, .int 1]) := by
  obtain ⟨_, c1⟩ := ex_and c.ex
  obtain ⟨_, c1⟩ := ex_and c1
  obtain ⟨c1, _⟩ := ex_and c1
  exact .tup (He.tupB_ok c1 D) (.cons (.int 1) (.cons (.int 1) .nil))
theorem Gd.sizesT (c : Gd G) (H : Hp) : SqT G.K H (He.ga G.K "SIZES") ([2, 4, 8, 16, 32].map V.int) := by
  obtain ⟨_, c1⟩ := ex_and c.ex
  obtain ⟨_, c1⟩ := ex_and c1
  obtain ⟨_, c1⟩ := ex_and c1
  obtain ⟨c1, _⟩ := ex_and c1
  exact He.tupB_ok c1 H
theorem Gd.sizes (c : Gd G) (D : Hp) : Dq G.K D (.ref (He.ga G.K "SIZES")) (.tuple ([2, 4, 8, 16, 32].map PyData.int)) := .tup (c.sizesT D) (dqL_ints _)
theorem Gd.sizesO (c : Gd G) : ∃ ob, G.K.lookup (He.ga G.K "SIZES") = some ob ∧ ob.cls = .type "tuple" ∧ ob.dict = none := by
  obtain ⟨_, c1⟩ := ex_and c.ex
  obtain ⟨_, c1⟩ := ex_and c1
  obtain ⟨_, c1⟩ := ex_and c1
  obtain ⟨_, c1⟩ := ex_and c1
  unfold sizB sizO at c1
  split at c1
  · rename_i t d sl e
    refine ⟨_, e, ?_, rfl⟩
    show Value.type t = _
    rw [eq_of_beq c1]
  · cases c1
theorem Gd.evZero (c : Gd G) {X : Cx} {ρ : List Slot} {μ : Mem} {pos : Pos} (hg : Gl X "ZERO" := by rfl) (hK : X.K = G.K := by rfl) (hM : X.mg = G.mg := by rfl) : Ev X ρ μ (.Name "ZERO" pos) (.dat (.tuple [.int 0, .int 1])) μ :=
  ev_con (v := .ref (He.ga G.K "ZERO")) (by rw [hM]; exact c.glo 73) rfl (fun D => by rw [hK]; exact c.zero D) hg
theorem Gd.evOne (c : Gd G) {X : Cx} {ρ : List Slot} {μ : Mem} {pos : Pos} (hg : Gl X "ONE" := by rfl) (hK : X.K = G.K := by rfl) (hM : X.mg = G.mg := by rfl) : Ev X ρ μ (.Name "ONE" pos) (.dat (.tuple [.int 1, .int 1])) μ :=
  ev_con (v := .ref (He.ga G.K "ONE")) (by rw [hM]; exact c.glo 74) rfl (fun D => by rw [hK]; exact c.one D) hg
theorem Gd.evSizes (c : Gd G) {X : Cx} {ρ : List Slot} {μ : Mem} {pos : Pos} (hg : Gl X "SIZES" := by rfl) (hK : X.K = G.K := by rfl) (hM : X.mg = G.mg := by rfl) : Ev X ρ μ (.Name "SIZES" pos) (.dat (.tuple ([2, 4, 8, 16, 32].map PyData.int))) μ :=
  ev_con (v := .ref (He.ga G.K "SIZES")) (by rw [hM]; exact c.glo 75) rfl (fun D => by rw [hK]; exact c.sizes D) hg
end
end Gu
end
section
set_option Elab.async false
set_option linter.all false
set_option maxRecDepth 100000
set_option maxHeartbeats 4000000
set_option exponentiation.threshold 20000
namespace Gu
open PySem PySem.Spec PyProof.Rows L2
def pr (a b : Int) : PyData := .tuple [.int a, .int b]
def pp (p : Int × Int) : PyData := pr p.1 p.2
def sm (i : Int) : Prop := i.natAbs < 2 ^ 4400
def mid (i : Int) : Prop := i.natAbs < 2 ^ 8900
def Okp (p : Int × Int) : Prop := 0 < p.2 ∧ sm p.1 ∧ sm p.2
theorem sm.mul {i j : Int} (h : sm i) (k : sm j) : CMulX i j := mulx_ok h k (by decide)
theorem sm.mid {i j : Int} (h : sm i) (k : sm j) : mid (i * j) := by
  unfold Gu.mid
  rw [Int.natAbs_mul]
  have z := Nat.mul_lt_mul'' h k
  rw [← Nat.pow_add] at z
  exact Nat.lt_of_lt_of_le z (Nat.pow_le_pow_right (by decide) (by decide))
theorem gc_w {x a b : Int} (h : 0 < b) (m : mid b) : CDivW x (gc a b) := by
  have g0 := gc_pos (a := a) h
  have g1 := gc_le (a := a) h
  exact wide_div (b := 8900) g0 (Nat.lt_of_le_of_lt (by omega) m) (by decide) (by decide)
def spDivisor (ds : List PyData) (d : PyData) : Prop := ∃ a b : Int, ds = [pr a b] ∧ d = .int (gc a b)
def spLowest (ds : List PyData) (d : PyData) : Prop := ∃ a b : Int, 0 < b ∧ mid b ∧ ds = [pr a b] ∧ d = pp (nrm a b)
def spRatio (ds : List PyData) (d : PyData) : Prop := ∃ a b : Int, 0 < b ∧ mid b ∧ ds = [.int a, .int b] ∧ d = pp (nrm a b)
def plusP (a b : Int × Int) : Int × Int := nrm (a.1 * b.2 + b.1 * a.2) (a.2 * b.2)
def sp2 (f : Int × Int → Int × Int → PyData) (ds : List PyData) (d : PyData) : Prop := ∃ a b, Okp a ∧ Okp b ∧ ds = [pp a, pp b] ∧ d = f a b
def spOver (ds : List PyData) (d : PyData) : Prop := ∃ a b : Int × Int, Okp a ∧ Okp b ∧ 0 < b.1 ∧ ds = [pp a, pp b] ∧ d = pp (overP a b)
section
variable {G : Gv}
theorem d_divisor (c : Gd G) : DefG G "divisor_of" 1 (spD G.K spDivisor) :=
  c.df 3 (ps := ["numbers"]) rfl rfl (fun _ _ _ _ _ _ us hl => match us, hl with | [_], _ => rfl) fun f fd F =>
    fn_dat F (N := ["numbers", "found", "number"]) (fnsc (by kernel_rfl)) (fun ds d ⟨a, b, e, _⟩ => by rw [e]; rfl) fun i ds d hn hr ⟨a, b, e1, e2⟩ => by
      subst e1 e2
      refine ws_set (i := 1) ev_int ?_ hn
      refine ws_forN (I := fun i ρ μ => ∃ s, μ = [] ∧ ρ = [.dat (pr a b), .dat (.int (if i = 0 then 0 else if i = 1 then gc 0 a else gc (gc 0 a) b)), s]) 2 bX_own rfl hn (evi_t (ev_v 0)) ⟨.un, rfl, rfl⟩ ?_ ?_
      · rintro i d ρ μ hd ⟨s, rfl, rfl⟩
        have hi : i = 0 ∧ d = .int a ∨ i = 1 ∧ d = .int b := by
          match i, hd with
          | 0, hd => cases hd; exact .inl ⟨rfl, rfl⟩
          | 1, hd => cases hd; exact .inr ⟨rfl, rfl⟩
        rcases hi with ⟨rfl, rfl⟩ | ⟨rfl, rfl⟩
        · exact ws_set (i := 1) (ev_gcd c.gcd (ev_v 1) (ev_v 2)) (ws_nil ⟨_, rfl, rfl⟩) hn
        · exact ws_set (i := 1) (ev_gcd c.gcd (ev_v 1) (ev_v 2)) (ws_nil ⟨_, rfl, rfl⟩) hn
      · rintro ρ μ ⟨s, rfl, rfl⟩
        refine ws_ret (ev_v 1) (.inl ?_)
        simp [gc]
theorem d_lowest (c : Gd G) : DefG G "lowest" 2 (spD G.K spLowest) :=
  c.df 4 (ps := ["numbers"]) rfl rfl (fun _ _ _ _ _ _ us hl => match us, hl with | [_], _ => rfl) fun f fd F =>
    fn_dat F (N := ["numbers", "part", "number"]) (fnsc (by kernel_rfl)) (fun ds d ⟨a, b, _, _, e, _⟩ => by rw [e]; rfl) fun i ds d hn hr ⟨a, b, hb, hm, e1, e2⟩ => by
      subst e1 e2
      refine ws_set (i := 1) (ev_call (d_divisor c) hr (evd_cons (ev_v 0) evd_nil) ⟨a, b, rfl, rfl⟩) ?_ hn
      refine ws_ret (μ' := []) (ev_if (k := false) (evt_is (evt_eq (ev_v 1) ev_int) (decide_eq_false (Int.ne_of_gt (gc_pos hb)))) (fun z => by cases z) fun _ => ?_) (.inl rfl)
      exact ev_tupleL sl_l (c.fr 79) (ev_lcMap (l := [a, b]) (g := PyData.int) (f := fun x => .int (x / gc a b)) (j := 2) rfl hn (evi_t (ev_v 0)) (Nat.le_of_ble_eq_true rfl) fun u hu b => ev_fdiv (gc_w hb hm) (ev_v 2) (ev_v 1))
theorem d_ratio (c : Gd G) : DefG G "ratio" 3 (spD G.K spRatio) :=
  c.df 6 (ps := ["top", "low"]) rfl rfl (fun _ _ _ _ _ _ us hl => match us, hl with | [_, _], _ => rfl) fun f fd F =>
    fn_dat F (N := ["top", "low"]) (fnsc (by kernel_rfl)) (fun ds d ⟨a, b, _, _, e, _⟩ => by rw [e]; rfl) fun i ds d hn hr ⟨a, b, hb, hm, e1, e2⟩ => by
      subst e1 e2
      refine ws_ret (μ' := []) (ev_if (k := true) (evt_is (evt_gt (ev_v 1) ev_int) (decide_eq_true hb)) (fun _ => ?_) fun z => by cases z) (.inl rfl)
      exact ev_call (d_lowest c) hr (evd_cons (ev_tup (evd_cons (ev_v 0) (evd_cons (ev_v 1) evd_nil))) evd_nil) ⟨a, b, hb, hm, rfl, rfl⟩
theorem d_plus (c : Gd G) : DefG G "plus" 4 (spD G.K (sp2 fun a b => pp (plusP a b))) :=
  c.df 8 (ps := ["one", "two"]) rfl rfl (fun _ _ _ _ _ _ us hl => match us, hl with | [_, _], _ => rfl) fun f fd F =>
    fn_dat F (N := ["one", "two"]) (fnsc (by kernel_rfl)) (fun ds d ⟨a, b, _, _, e, _⟩ => by rw [e]; rfl) fun i ds d hn hr ⟨a, b, ha, hb, e1, e2⟩ => by
      subst e1 e2
      exact ws_ret (ev_call (d_ratio c) hr (evd_cons (ev_add (ev_mul (ha.2.1.mul hb.2.2) (ev_ixT (ev_v 0) ev_int) (ev_ixT (ev_v 1) ev_int)) (ev_mul (hb.2.1.mul ha.2.2) (ev_ixT (ev_v 1) ev_int) (ev_ixT (ev_v 0) ev_int)))
        (evd_cons (ev_mul (ha.2.2.mul hb.2.2) (ev_ixT (ev_v 0) ev_int) (ev_ixT (ev_v 1) ev_int)) evd_nil)) ⟨_, _, Int.mul_pos ha.1 hb.1, ha.2.2.mid hb.2.2, rfl, rfl⟩) (.inl rfl)
theorem d_minus (c : Gd G) : DefG G "minus" 4 (spD G.K (sp2 fun a b => pp (minusP a b))) :=
  c.df 7 (ps := ["one", "two"]) rfl rfl (fun _ _ _ _ _ _ us hl => match us, hl with | [_, _], _ => rfl) fun f fd F =>
    fn_dat F (N := ["one", "two"]) (fnsc (by kernel_rfl)) (fun ds d ⟨a, b, _, _, e, _⟩ => by rw [e]; rfl) fun i ds d hn hr ⟨a, b, ha, hb, e1, e2⟩ => by
      subst e1 e2
      exact ws_ret (ev_call (d_ratio c) hr (evd_cons (ev_sub (ev_mul (ha.2.1.mul hb.2.2) (ev_ixT (ev_v 0) ev_int) (ev_ixT (ev_v 1) ev_int)) (ev_mul (hb.2.1.mul ha.2.2) (ev_ixT (ev_v 1) ev_int) (ev_ixT (ev_v 0) ev_int)))
        (evd_cons (ev_mul (ha.2.2.mul hb.2.2) (ev_ixT (ev_v 0) ev_int) (ev_ixT (ev_v 1) ev_int)) evd_nil)) ⟨_, _, Int.mul_pos ha.1 hb.1, ha.2.2.mid hb.2.2, rfl, rfl⟩) (.inl rfl)
theorem d_times (c : Gd G) : DefG G "times" 4 (spD G.K (sp2 fun a b => pp (timesP a b))) :=
  c.df 9 (ps := ["one", "two"]) rfl rfl (fun _ _ _ _ _ _ us hl => match us, hl with | [_, _], _ => rfl) fun f fd F =>
    fn_dat F (N := ["one", "two"]) (fnsc (by kernel_rfl)) (fun ds d ⟨a, b, _, _, e, _⟩ => by rw [e]; rfl) fun i ds d hn hr ⟨a, b, ha, hb, e1, e2⟩ => by
      subst e1 e2
      exact ws_ret (ev_call (d_ratio c) hr (evd_cons (ev_mul (ha.2.1.mul hb.2.1) (ev_ixT (ev_v 0) ev_int) (ev_ixT (ev_v 1) ev_int))
        (evd_cons (ev_mul (ha.2.2.mul hb.2.2) (ev_ixT (ev_v 0) ev_int) (ev_ixT (ev_v 1) ev_int)) evd_nil)) ⟨_, _, Int.mul_pos ha.1 hb.1, ha.2.2.mid hb.2.2, rfl, rfl⟩) (.inl rfl)
theorem d_over (c : Gd G) : DefG G "over" 4 (spD G.K spOver) :=
  c.df 10 (ps := ["one", "two"]) rfl rfl (fun _ _ _ _ _ _ us hl => match us, hl with | [_, _], _ => rfl) fun f fd F =>
    fn_dat F (N := ["one", "two"]) (fnsc (by kernel_rfl)) (fun ds d ⟨a, b, _, _, _, e, _⟩ => by rw [e]; rfl) fun i ds d hn hr ⟨a, b, ha, hb, h0, e1, e2⟩ => by
      subst e1 e2
      exact ws_ret (ev_call (d_ratio c) hr (evd_cons (ev_mul (ha.2.1.mul hb.2.2) (ev_ixT (ev_v 0) ev_int) (ev_ixT (ev_v 1) ev_int))
        (evd_cons (ev_mul (ha.2.2.mul hb.2.1) (ev_ixT (ev_v 0) ev_int) (ev_ixT (ev_v 1) ev_int)) evd_nil)) ⟨_, _, Int.mul_pos ha.1 h0, ha.2.2.mid hb.2.1, rfl, rfl⟩) (.inl rfl)
theorem d_below (c : Gd G) : DefG G "is_below" 1 (spD G.K (sp2 fun a b => .bool (belowP a b))) :=
  c.df 12 (ps := ["one", "two"]) rfl rfl (fun _ _ _ _ _ _ us hl => match us, hl with | [_, _], _ => rfl) fun f fd F =>
    fn_dat F (N := ["one", "two"]) (fnsc (by kernel_rfl)) (fun ds d ⟨a, b, _, _, e, _⟩ => by rw [e]; rfl) fun i ds d hn hr ⟨a, b, ha, hb, e1, e2⟩ => by
      subst e1 e2
      exact ws_ret (ev_lt (ev_mul (ha.2.1.mul hb.2.2) (ev_ixT (ev_v 0) ev_int) (ev_ixT (ev_v 1) ev_int)) (ev_mul (hb.2.1.mul ha.2.2) (ev_ixT (ev_v 1) ev_int) (ev_ixT (ev_v 0) ev_int))) (.inl rfl)
end
end Gu
end
section
set_option Elab.async false
set_option linter.all false
set_option maxRecDepth 100000
set_option maxHeartbeats 4000000
set_option exponentiation.threshold 20000
namespace Gu
open PySem PySem.Spec PyProof.Rows L2
theorem ev_allM {α : Type} {l : List α} {q : α → Bool} {X : Cx} {ρ : List Slot} {μ μ1 : Mem} {a : Expr} {p pos : Pos} (hc : X.calm = true) (hm : X.mg "all" = none) (ha : Ev X ρ μ a (.dat (.list (l.map fun u => .bool (q u)))) μ1) (hg : Gl X "all" := by rfl)
    (hs : starEach [a] X.env = (false, eval a X.env) :: starEach [] X.env := by rfl) : Ev X ρ μ (.Call (.Name "all" p) [a] [] pos) (.dat (.bool (l.all q))) μ1 := by
  have e : (l.map fun u => PyData.bool (q u)) = (l.map q).map PyData.bool := by rw [List.map_map]; rfl
  rw [e] at ha
  have z := ev_all (p := p) (pos := pos) hc hm ha hg hs
  rw [List.all_map] at z
  exact z
theorem ev_anyM {α : Type} {l : List α} {q : α → Bool} {X : Cx} {ρ : List Slot} {μ μ1 : Mem} {a : Expr} {p pos : Pos} (hc : X.calm = true) (hm : X.mg "any" = none) (ha : Ev X ρ μ a (.dat (.list (l.map fun u => .bool (q u)))) μ1) (hg : Gl X "any" := by rfl)
    (hs : starEach [a] X.env = (false, eval a X.env) :: starEach [] X.env := by rfl) : Ev X ρ μ (.Call (.Name "any" p) [a] [] pos) (.dat (.bool (l.any q))) μ1 := by
  have e : (l.map fun u => PyData.bool (q u)) = (l.map q).map PyData.bool := by rw [List.map_map]; rfl
  rw [e] at ha
  have z := ev_any (p := p) (pos := pos) hc hm ha hg hs
  rw [List.any_map] at z
  exact z
/-! ### sizes -/
theorem Szp.ok {B : Nat} {p : Int × Int} (h : Szp B p) (hB : B ≤ 4400) : Okp p :=
  ⟨h.1, Nat.lt_of_lt_of_le h.2.1 (Nat.pow_le_pow_right (by decide) hB), Nat.lt_of_lt_of_le h.2.2 (Nat.pow_le_pow_right (by decide) hB)⟩
theorem szp_nrm {a b : Int} {B : Nat} (h : 0 < b) (h1 : a.natAbs < 2 ^ B) (h2 : b.natAbs < 2 ^ B) : Szp B (nrm a b) := ⟨nrm_pos h, Nat.lt_of_le_of_lt (nrm_le1 h) h1, Nat.lt_of_le_of_lt (nrm_le2 h) h2⟩
theorem Szp.times {B C : Nat} {a b : Int × Int} (h : Szp B a) (k : Szp C b) : Szp (B + C) (timesP a b) := szp_nrm (Int.mul_pos h.1 k.1) (mul_lt h.2.1 k.2.1) (mul_lt h.2.2 k.2.2)
theorem Szp.over {B C : Nat} {a b : Int × Int} (h : Szp B a) (k : Szp C b) (h0 : 0 < b.1) : Szp (B + C) (overP a b) := szp_nrm (Int.mul_pos h.1 h0) (mul_lt h.2.1 k.2.2) (mul_lt h.2.2 k.2.1)
theorem times_pos {a b : Int × Int} (ha : 0 < a.1) (hb : 0 < b.1) (h : 0 < a.2) (k : 0 < b.2) : 0 < (timesP a b).1 := (nrm_sign (Int.mul_pos h k)).2.mpr (Int.mul_pos ha hb)
theorem okp_nrm {x C : Int} (h : 0 < C) (h1 : sm x) (h2 : sm C) : Okp (nrm x C) := (szp_nrm h h1 h2).ok (Nat.le_refl _)
/-! ### carriers -/
def carD (ws : List (Int × Int)) : PyData := .tuple (ws.map pp)
theorem Car.cases {ws : List (Int × Int)} {n : Nat} (h : Car ws n) : n = 1 ∧ ws.length = 2 ∨ n = 2 ∧ ws.length = 4 ∨ n = 3 ∧ ws.length = 8 ∨ n = 4 ∧ ws.length = 16 := by
  have l := h.len
  have h1 := h.n1
  have h4 := h.n4
  have e : n = 1 ∨ n = 2 ∨ n = 3 ∨ n = 4 := by omega
  rcases e with rfl | rfl | rfl | rfl <;> simp_all
theorem Car.len16 {ws : List (Int × Int)} {n : Nat} (h : Car ws n) : 2 ≤ ws.length ∧ ws.length ≤ 16 := by
  rcases h.cases with ⟨_, e⟩ | ⟨_, e⟩ | ⟨_, e⟩ | ⟨_, e⟩ <;> omega
def amtB (p : Int × Int) : Bool := (decide (0 < p.2) && decide (gc p.1 p.2 = 1)) && decide (0 < p.1)
theorem Amt.b {p : Int × Int} (h : Amt p) : amtB p = true := by
  unfold amtB
  rw [decide_eq_true h.1, decide_eq_true h.2.1, decide_eq_true h.2.2.1]
  rfl
/-! ### promises -/
def spTotal (ds : List PyData) (d : PyData) : Prop := ∃ (C : Int) (xs : List Int), 0 < C ∧ sm C ∧ (∀ x ∈ xs, 0 ≤ x) ∧ sm xs.sum ∧ xs.length ≤ 1000 ∧ ds = [.list (xs.map fun x => pp (nrm x C))] ∧ d = pp (nrm xs.sum C)
def spWhole (ds : List PyData) (d : PyData) : Prop := ∃ a : Int, ds = [.int a] ∧ d = .bool true
def spBetween (ds : List PyData) (d : PyData) : Prop := ∃ a l h : Int, ds = [.int a, .int l, .int h] ∧ d = .bool (decide (l ≤ a) && decide (a ≤ h))
def spWholes (ds : List PyData) (d : PyData) : Prop := ∃ a b : Int, ds = [pr a b, .int 2] ∧ d = .bool true
def spIsRatio (ds : List PyData) (d : PyData) : Prop := ∃ p : Int × Int, ds = [pp p] ∧ d = .bool (decide (0 < p.2) && decide (gc p.1 p.2 = 1))
def spAmount (ds : List PyData) (d : PyData) : Prop := ∃ p : Int × Int, ds = [pp p] ∧ d = .bool (amtB p)
def spCar (r : PyData) (ds : List PyData) (d : PyData) : Prop := ∃ ws n, Car ws n ∧ ds = [carD ws] ∧ d = r
def spSeats (ds : List PyData) (d : PyData) : Prop := ∃ ws n, Car ws n ∧ ds = [carD ws] ∧ d = .int (n : Nat)
section
variable {G : Gv}
theorem sum_take {xs : List Int} (h : ∀ x ∈ xs, 0 ≤ x) (i : Nat) : 0 ≤ (xs.take i).sum ∧ (xs.take i).sum ≤ xs.sum := by
  induction xs generalizing i with
  | nil => simp
  | cons x xs ih =>
    cases i with
    | zero =>
      have z := (ih (fun y hy => h y (List.mem_cons_of_mem _ hy)) xs.length).1
      rw [List.take_length] at z
      have := h x List.mem_cons_self
      simp only [List.take_zero, List.sum_nil, List.sum_cons]
      omega
    | succ i =>
      obtain ⟨h1, h2⟩ := ih (fun y hy => h y (List.mem_cons_of_mem _ hy)) i
      have := h x List.mem_cons_self
      simp only [List.take_succ_cons, List.sum_cons]
      omega
theorem sum_take_succ {xs : List Int} {i : Nat} {x : Int} (h : xs[i]? = some x) : (xs.take (i + 1)).sum = (xs.take i).sum + x := by
  rw [List.take_add_one, h, List.sum_append]
  simp
theorem mem_le_sum {xs : List Int} (h : ∀ x ∈ xs, 0 ≤ x) {x : Int} (hx : x ∈ xs) : x ≤ xs.sum := by
  obtain ⟨i, hi⟩ := List.getElem?_of_mem hx
  have h1 := (sum_take h i).1
  have h2 := (sum_take h (i + 1)).2
  rw [sum_take_succ hi] at h2
  omega
theorem sm_le {x y : Int} (h0 : 0 ≤ x) (h : x ≤ y) (k : sm y) : sm x := by
  unfold sm at *
  exact Nat.lt_of_le_of_lt (by omega) k
theorem d_total (c : Gd G) : DefG G "total_of" 5 (spD G.K spTotal) :=
  c.df 11 (ps := ["fractions"]) rfl rfl (fun _ _ _ _ _ _ us hl => match us, hl with | [_], _ => rfl) fun f fd F =>
    fn_dat F (N := ["fractions", "found", "each"]) (fnsc (by kernel_rfl)) (fun ds d ⟨a, b, _, _, _, _, _, e, _⟩ => by rw [e]; rfl) fun i ds d hn hr ⟨C, xs, hC, sC, h0, hs, hl, e1, e2⟩ => by
      subst e1 e2
      refine ws_set (i := 1) c.evZero ?_ hn
      refine ws_forN (I := fun i ρ μ => ∃ s, μ = [] ∧ ρ = [.dat (.list (xs.map fun x => pp (nrm x C))), .dat (pp (nrm (xs.take i).sum C)), s]) 2 bX_own rfl hn (evi_l (ev_v 0)) ⟨.un, rfl, ?_⟩ ?_ ?_
      · rw [List.take_zero, List.sum_nil, nrm_zero hC]
        rfl
      · rintro i d ρ μ hd ⟨s, rfl, rfl⟩
        rw [List.getElem?_map] at hd
        cases q : xs[i]? with
        | none => rw [q] at hd; cases hd
        | some x =>
          rw [q] at hd
          have e : pp (nrm x C) = d := Option.some.inj hd
          subst e
          have hx := List.mem_of_getElem? q
          obtain ⟨s1, s2⟩ := sum_take h0 i
          refine ws_set (i := 1) (ev_call (d_plus c) hr (evd_cons (ev_v 1) (evd_cons (ev_v 2) evd_nil)) ⟨_, _, okp_nrm hC (sm_le s1 s2 hs) sC, okp_nrm hC (sm_le (h0 x hx) (mem_le_sum h0 hx) hs) sC, rfl, rfl⟩) (ws_nil ⟨.dat (pp (nrm x C)), rfl, ?_⟩) hn
          rw [sum_take_succ q, ← nrm_add hC]
          rfl
      · rintro ρ μ ⟨s, rfl, rfl⟩
        refine ws_ret (ev_v 1) (.inl ?_)
        rw [List.length_map, List.take_length]
theorem d_whole (c : Gd G) : DefG G "is_whole" 1 (spD G.K spWhole) :=
  c.df 0 (ps := ["value"]) rfl rfl (fun _ _ _ _ _ _ us hl => match us, hl with | [_], _ => rfl) fun f fd F =>
    fn_dat F (N := ["value"]) (fnsc (by kernel_rfl)) (fun ds d ⟨a, e, _⟩ => by rw [e]; rfl) fun i ds d hn hr ⟨a, e1, e2⟩ => by
      subst e1 e2
      exact ws_ret (ev_and' (k := true) (l := true) (ev_isi (d := .int a) (T := "int") (c.fr 76) (c.fr 77) boot_int0 rfl (ev_v 0)) fun _ => ev_one (ev_not (ev_isi (d := .int a) (T := "bool") (k := false) (c.fr 76) (c.fr 78) boot_bool0 rfl (ev_v 0)))) (.inl rfl)
theorem d_between (c : Gd G) : DefG G "is_between" 2 (spD G.K spBetween) :=
  c.df 1 (ps := ["value", "low", "high"]) rfl rfl (fun _ _ _ _ _ _ us hl => match us, hl with | [_, _, _], _ => rfl) fun f fd F =>
    fn_dat F (N := ["value", "low", "high"]) (fnsc (by kernel_rfl)) (fun ds d ⟨a, _, _, e, _⟩ => by rw [e]; rfl) fun i ds d hn hr ⟨a, l, h, e1, e2⟩ => by
      subst e1 e2
      exact ws_ret (ev_and' (k := true) (ev_call (d_whole c) hr (evd_cons (ev_v 0) evd_nil) ⟨a, rfl, rfl⟩) fun _ => ev_and' (ev_le (ev_v 1) (ev_v 0)) fun _ => ev_one (ev_le (ev_v 0) (ev_v 2))) (.inl rfl)
theorem d_wholes (c : Gd G) : DefG G "are_wholes" 2 (spD G.K spWholes) :=
  c.df 2 (ps := ["value", "many"]) rfl rfl (fun _ _ _ _ _ _ us hl => match us, hl with | [_, _], _ => rfl) fun f fd F =>
    fn_dat F (N := ["value", "many", "each"]) (fnsc (by kernel_rfl)) (fun ds d ⟨a, _, e, _⟩ => by rw [e]; rfl) fun i ds d hn hr ⟨a, b, e1, e2⟩ => by
      subst e1 e2
      refine ws_ret (μ' := []) (ev_and' (k := true) (l := true) (ev_isi (d := pr a b) (T := "tuple") (c.fr 76) (c.fr 79) boot_tuple0 rfl (ev_v 0)) fun _ => ev_and' (k := true) (ev_is (ev_eq (ev_len sq_t (c.fr 80) (ev_v 0)) (ev_v 1)) rfl) fun _ => ev_one ?_) (.inl rfl)
      exact ev_is (ev_allM (l := [a, b]) (q := fun _ => true) rfl (c.fr 81) (ev_lcMap (l := [a, b]) (g := PyData.int) (j := 2) rfl hn (evi_t (ev_v 0)) (Nat.le_of_ble_eq_true rfl) fun u hu b => ev_call (d_whole c) hr (evd_cons (ev_v 2) evd_nil) ⟨u, rfl, rfl⟩)) rfl
theorem d_isratio (c : Gd G) : DefG G "is_ratio" 3 (spD G.K spIsRatio) :=
  c.df 5 (ps := ["value"]) rfl rfl (fun _ _ _ _ _ _ us hl => match us, hl with | [_], _ => rfl) fun f fd F =>
    fn_dat F (N := ["value"]) (fnsc (by kernel_rfl)) (fun ds d ⟨a, e, _⟩ => by rw [e]; rfl) fun i ds d hn hr ⟨⟨a, b⟩, e1, e2⟩ => by
      subst e1 e2
      exact ws_ret (ev_and' (k := true) (ev_call (d_wholes c) hr (evd_cons (ev_v 0) (evd_cons ev_int evd_nil)) ⟨a, b, rfl, rfl⟩) fun _ => ev_and' (ev_gt (ev_ixT (ev_v 0) ev_int) ev_int) fun _ => ev_one (ev_eq (ev_call (d_divisor c) (hr.mono (by decide)) (evd_cons (ev_v 0) evd_nil) ⟨a, b, rfl, rfl⟩) ev_int)) (.inl rfl)
theorem d_amount (c : Gd G) : DefG G "is_amount" 4 (spD G.K spAmount) :=
  c.df 13 (ps := ["value"]) rfl rfl (fun _ _ _ _ _ _ us hl => match us, hl with | [_], _ => rfl) fun f fd F =>
    fn_dat F (N := ["value"]) (fnsc (by kernel_rfl)) (fun ds d ⟨a, e, _⟩ => by rw [e]; rfl) fun i ds d hn hr ⟨⟨a, b⟩, e1, e2⟩ => by
      subst e1 e2
      exact ws_ret (ev_and' (ev_call (d_isratio c) hr (evd_cons (ev_v 0) evd_nil) ⟨(a, b), rfl, rfl⟩) fun _ => ev_one (ev_gt (ev_ixT (ev_v 0) ev_int) ev_int)) (.inl rfl)
theorem inF_sizes {ws : List (Int × Int)} {n : Nat} (h : Car ws n) : inF (.int (ws.map pp).length) ([2, 4, 8, 16, 32].map PyData.int) = true := by
  rw [List.length_map]
  rcases h.cases with ⟨_, e⟩ | ⟨_, e⟩ | ⟨_, e⟩ | ⟨_, e⟩ <;> rw [e] <;> rfl
theorem d_iscarrier (c : Gd G) : DefG G "is_carrier" 5 (spD G.K (spCar (.bool true))) :=
  c.df 14 (ps := ["value"]) rfl rfl (fun _ _ _ _ _ _ us hl => match us, hl with | [_], _ => rfl) fun f fd F =>
    fn_dat F (N := ["value", "each"]) (fnsc (by kernel_rfl)) (fun ds d ⟨_, _, _, e, _⟩ => by rw [e]; rfl) fun i ds d hn hr ⟨ws, n, h, e1, e2⟩ => by
      subst e1 e2
      refine ws_ifr (k := false) (μ1 := []) (evt_of (evw_or' (k := false) (l := false) (evt_not (k := true) (evt_val (ev_isi (d := carD ws) (T := "tuple") (c.fr 76) (c.fr 79) boot_tuple0 rfl (ev_v 0)))) fun _ => evw_or1 (evt_is (evt_nin sq_t rfl ?_ (ev_len sq_t (c.fr 80) (ev_v 0)) c.evSizes) ?_))) (fun z => by cases z) fun _ => ?_
      · intro d hd
        rcases List.mem_map.mp hd with ⟨_, _, rfl⟩
        rfl
      · rw [inF_sizes h]
        rfl
      · refine ws_ret (μ' := []) (ev_and' (k := true) (l := true) (ev_is (ev_allM (l := ws) (q := amtB) rfl (c.fr 81) (ev_lcMap (l := ws) (g := pp) (j := 1) rfl hn (evi_t (ev_v 0)) (Nat.le_trans h.len16.2 (by decide)) fun u hu b => ev_call (d_amount c) hr (evd_cons (ev_v 1) evd_nil) ⟨u, rfl, rfl⟩)) ?_) fun _ => ev_one ?_) (.inl rfl)
        · rw [List.all_eq_true.mpr fun p hp => (h.amt p hp).b]
        · exact ev_eqD (d := pp (1, 1)) (d' := pp (1, 1)) (by have := hr.un; omega) rfl rfl (ev_ixK (k := 0) sq_t (ev_v 0) ev_int h.one) c.evOne
theorem d_check (c : Gd G) : DefG G "check_carrier" 6 (spD G.K (spCar .none)) :=
  c.df 15 (ps := ["value"]) rfl rfl (fun _ _ _ _ _ _ us hl => match us, hl with | [_], _ => rfl) fun f fd F =>
    fn_dat F (N := ["value"]) (fnsc (by kernel_rfl)) (fun ds d ⟨_, _, _, e, _⟩ => by rw [e]; rfl) fun i ds d hn hr ⟨ws, n, h, e1, e2⟩ => by
      subst e1 e2
      exact ws_ifr (k := false) (evt_not (k := true) (evt_val (ev_call (d_iscarrier c) hr (evd_cons (ev_v 0) evd_nil) ⟨ws, n, h, rfl, rfl⟩))) (fun z => by cases z) fun _ => ws_nil rfl
theorem idx_sizes {ws : List (Int × Int)} {n : Nat} (h : Car ws n) : ((ws.map pp).length : Int) ∈ ([2, 4, 8, 16, 32] : List Int) ∧ (([2, 4, 8, 16, 32] : List Int).idxOf ((ws.map pp).length : Int) : Int) + 1 = (n : Nat) := by
  rw [List.length_map]
  rcases h.cases with ⟨rfl, e⟩ | ⟨rfl, e⟩ | ⟨rfl, e⟩ | ⟨rfl, e⟩ <;> rw [e] <;> decide
theorem d_seats (c : Gd G) : DefG G "seat_count" 1 (spD G.K spSeats) :=
  c.df 16 (ps := ["carrier"]) rfl rfl (fun _ _ _ _ _ _ us hl => match us, hl with | [_], _ => rfl) fun f fd F =>
    fn_dat F (N := ["carrier"]) (fnsc (by kernel_rfl)) (fun ds d ⟨_, _, _, e, _⟩ => by rw [e]; rfl) fun i ds d hn hr ⟨ws, n, h, e1, e2⟩ => by
      subst e1 e2
      obtain ⟨ob, o1, o2, o3⟩ := c.sizesO
      obtain ⟨m1, m2⟩ := idx_sizes h
      refine ws_ret (ev_add (ev_tindex rfl (c.glo 75) c.sizesT o1 o2 o3 (ev_len sq_t (c.fr 80) (ev_v 0)) m1) ev_int) (.inl ?_)
      rw [m2]
end
end Gu
end
section
set_option Elab.async false
set_option linter.all false
set_option maxRecDepth 100000
set_option maxHeartbeats 4000000
set_option exponentiation.threshold 20000
namespace Gu
open PySem PySem.Spec PyProof.Rows L2
theorem tb_int (s k : Nat) : decide (((s / 2 ^ k : Nat) : Int) % 2 = 1) = s.testBit k := by
  rw [Nat.testBit_eq_decide_div_mod_eq]
  rw [Bool.eq_iff_iff, decide_eq_true_iff, decide_eq_true_iff]
  omega
theorem half_int (s i : Nat) : ((s / 2 ^ i : Nat) : Int) / 2 = ((s / 2 ^ (i + 1) : Nat) : Int) := by
  rw [Nat.pow_succ, ← Nat.div_div_eq_div_mul]
  omega
theorem w2 {x : Int} : CDivW x 2 := ⟨by decide, by decide⟩
def spHas (ds : List PyData) (d : PyData) : Prop := ∃ s k : Nat, k ≤ 100 ∧ ds = [natD s, natD k] ∧ d = .bool (s.testBit k)
def spWith (ds : List PyData) (d : PyData) : Prop := ∃ (ws : List (Int × Int)) (ks : List Nat), ws.length ≤ 100 ∧ (∀ k ∈ ks, k ≤ 100) ∧ ks.length ≤ 100 ∧ ds = [carD ws, .list (ks.map natD)] ∧ d = .list ((bitsF ws.length ks).map natD)
def spBit (ds : List PyData) (d : PyData) : Prop := ∃ k : Nat, k ≤ 100 ∧ ds = [natD k] ∧ d = natD (2 ^ k)
def spFree (ds : List PyData) (d : PyData) : Prop := ∃ s i j : Nat, i ≤ 100 ∧ j ≤ 100 ∧ ds = [natD s, natD i, natD j] ∧ d = .bool (!s.testBit i && !s.testBit j)
def spFrees (ds : List PyData) (d : PyData) : Prop := ∃ (ws : List (Int × Int)) (i j : Nat), ws.length ≤ 100 ∧ i ≤ 100 ∧ j ≤ 100 ∧ ds = [carD ws, natD i, natD j] ∧ d = .list ((freeF ws.length i j).map natD)
def spLink (ds : List PyData) (d : PyData) : Prop := ∃ (ws : List (Int × Int)) (n i j s : Nat), Car ws n ∧ i ≤ 100 ∧ j ≤ 100 ∧ s + 2 ^ i + 2 ^ j < ws.length ∧ ds = [carD ws, natD i, natD j, natD s] ∧ d = pp (linkP ws i j s)
theorem idx3 {s a b n : Nat} (h : s + a + b < n) : s < n ∧ s + a < n ∧ s + b < n := by omega
theorem link_ok {ws : List (Int × Int)} {n i j s : Nat} (h : Car ws n) (hs : s + 2 ^ i + 2 ^ j < ws.length) : Szp 160 (linkP ws i j s) := by
  have a : ∀ k, k < ws.length → Amt (at1 ws k) := fun k hk => h.amt _ (at1_mem hk)
  have a1 := a _ hs
  obtain ⟨b1, b2, b3⟩ := idx3 hs
  have a2 := a s b1
  have a3 := a (s + 2 ^ i) b2
  have a4 := a (s + 2 ^ j) b3
  exact (a1.2.2.times a2.2.2).over (a3.2.2.times a4.2.2) (times_pos a3.1 a4.1 a3.2.2.1 a4.2.2.1)
def npD (p : Nat × Nat) : PyData := .tuple [natD p.1, natD p.2]
section
variable {G : Gv}
theorem d_has (c : Gd G) : DefG G "has_guest" 1 (spD G.K spHas) :=
  c.df 17 (ps := ["standing", "seat"]) rfl rfl (fun _ _ _ _ _ _ us hl => match us, hl with | [_, _], _ => rfl) fun f fd F =>
    fn_dat F (N := ["standing", "seat", "_"]) (fnsc (by kernel_rfl)) (fun ds d ⟨_, _, _, e, _⟩ => by rw [e]; rfl) fun i ds d hn hr ⟨s, k, hk, e1, e2⟩ => by
      subst e1 e2
      refine ws_forN (I := fun i ρ μ => ∃ z, μ = [] ∧ ρ = [.dat (natD (s / 2 ^ i)), .dat (natD k), z]) 2 bX_own rfl hn (evi_n1 (n := k) (c.fr 83) (by omega) (ev_v 1)) ⟨.un, rfl, by rw [Nat.pow_zero, Nat.div_one]; rfl⟩ ?_ ?_
      · rintro i d ρ μ hd ⟨z, rfl, rfl⟩
        refine ws_set (i := 0) (ev_fdiv w2 (ev_v 0) ev_int) (ws_nil ⟨.dat d, rfl, ?_⟩) hn
        rw [half_int]
        rfl
      · rintro ρ μ ⟨z, rfl, rfl⟩
        rw [List.length_map, List.length_range]
        refine ws_ret (ev_eq (ev_mod (by decide) (ev_v 0) ev_int) ev_int) (.inl ?_)
        rw [tb_int]
theorem d_with (c : Gd G) : DefG G "with_seats" 2 (spD G.K spWith) :=
  c.df 18 (ps := ["carrier", "seats"]) rfl rfl (fun _ _ _ _ _ _ us hl => match us, hl with | [_, _], _ => rfl) fun f fd F =>
    fn_dat F (N := ["carrier", "seats", "at", "seat"]) (fnsc (by kernel_rfl)) (fun ds d ⟨_, _, _, _, _, e, _⟩ => by rw [e]; rfl) fun i ds d hn hr ⟨ws, ks, hw, hk, hl, e1, e2⟩ => by
      subst e1 e2
      refine ws_ret (μ' := []) (ev_lcFilter (l := List.range ws.length) (g := natD) (f := natD) (kp := fun s => ks.all fun k => s.testBit k) (j := 2) rfl hn (evi_n1 (c.fr 83) (by omega) (ev_is (ev_len sq_t (c.fr 80) (ev_v 0)) (by rw [List.length_map]))) (by rw [List.length_range]; exact Nat.le_trans hw (by decide)) fun u hu => ⟨fun b => evf_one (evt_val ?_), fun _ b => ev_v 2⟩) (.inl rfl)
      exact ev_allM rfl (c.fr 81) (ev_lcMap (l := ks) (g := natD) (j := 3) rfl hn (evi_l (ev_v 1)) (Nat.le_trans hl (by decide)) fun v hv b2 => ev_call (d_has c) hr (evd_cons (ev_v 2) (evd_cons (ev_v 3) evd_nil)) ⟨u, v, hk v hv, rfl, rfl⟩)
theorem d_bit (c : Gd G) : DefG G "bit_of" 1 (spD G.K spBit) :=
  c.df 19 (ps := ["seat"]) rfl rfl (fun _ _ _ _ _ _ us hl => match us, hl with | [_], _ => rfl) fun f fd F =>
    fn_dat F (N := ["seat", "found", "_"]) (fnsc (by kernel_rfl)) (fun ds d ⟨_, _, e, _⟩ => by rw [e]; rfl) fun i ds d hn hr ⟨k, hk, e1, e2⟩ => by
      subst e1 e2
      refine ws_set (i := 1) ev_int ?_ hn
      refine ws_forN (I := fun i ρ μ => ∃ z, i ≤ k ∧ μ = [] ∧ ρ = [.dat (natD k), .dat (natD (2 ^ i)), z]) 2 bX_own rfl hn (evi_n1 (n := k) (c.fr 83) (by omega) (ev_v 0)) ⟨.un, Nat.zero_le _, rfl, rfl⟩ ?_ ?_
      · rintro i d ρ μ hd ⟨z, hi, rfl, rfl⟩
        have hi2 : i < k := by
          have := (List.getElem?_eq_some_iff.mp hd).1
          rw [List.length_map, List.length_range] at this
          exact this
        refine ws_set (i := 1) (ev_mul (mulx_ok (a := 64) (b := 200) (by decide) ?_ (by decide)) ev_int (ev_v 1)) (ws_nil ⟨.dat d, hi2, rfl, ?_⟩) hn
        · rw [Int.natAbs_natCast]
          exact Nat.pow_lt_pow_right (by decide) (by omega)
        · have e : (2 : Int) * ((2 ^ i : Nat) : Int) = ((2 ^ (i + 1) : Nat) : Int) := by
            rw [Nat.pow_succ]
            omega
          rw [e]
          rfl
      · rintro ρ μ ⟨z, _, rfl, rfl⟩
        rw [List.length_map, List.length_range]
        exact ws_ret (ev_v 1) (.inl rfl)
theorem d_free (c : Gd G) : DefG G "is_free" 2 (spD G.K spFree) :=
  c.df 20 (ps := ["standing", "seat", "other"]) rfl rfl (fun _ _ _ _ _ _ us hl => match us, hl with | [_, _, _], _ => rfl) fun f fd F =>
    fn_dat F (N := ["standing", "seat", "other"]) (fnsc (by kernel_rfl)) (fun ds d ⟨_, _, _, _, _, e, _⟩ => by rw [e]; rfl) fun i ds d hn hr ⟨s, i, j, hi, hj, e1, e2⟩ => by
      subst e1 e2
      exact ws_ret (ev_and' (ev_not (ev_call (d_has c) hr (evd_cons (ev_v 0) (evd_cons (ev_v 1) evd_nil)) ⟨s, i, hi, rfl, rfl⟩)) fun _ => ev_one (ev_not (ev_call (d_has c) hr (evd_cons (ev_v 0) (evd_cons (ev_v 2) evd_nil)) ⟨s, j, hj, rfl, rfl⟩))) (.inl rfl)
theorem d_frees (c : Gd G) : DefG G "free_standings" 3 (spD G.K spFrees) :=
  c.df 21 (ps := ["carrier", "seat", "other"]) rfl rfl (fun _ _ _ _ _ _ us hl => match us, hl with | [_, _, _], _ => rfl) fun f fd F =>
    fn_dat F (N := ["carrier", "seat", "other", "standing"]) (fnsc (by kernel_rfl)) (fun ds d ⟨_, _, _, _, _, _, e, _⟩ => by rw [e]; rfl) fun i ds d hn hr ⟨ws, i, j, hw, hi, hj, e1, e2⟩ => by
      subst e1 e2
      refine ws_ret (μ' := []) (ev_is (ev_lcFilter (l := List.range ws.length) (g := natD) (f := natD) (kp := fun s => !s.testBit i && !s.testBit j) (j := 3) rfl hn (evi_n1 (c.fr 83) (by omega) (ev_is (ev_len sq_t (c.fr 80) (ev_v 0)) (by rw [List.length_map]))) (by rw [List.length_range]; exact Nat.le_trans hw (by decide)) fun u hu => ⟨fun b => evf_one (evt_val ?_), fun _ b => ev_v 3⟩) rfl) (.inl rfl)
      exact ev_call (d_free c) hr (evd_cons (ev_v 3) (evd_cons (ev_v 1) (evd_cons (ev_v 2) evd_nil))) ⟨u, i, j, hi, hj, rfl, rfl⟩
theorem natD_add (a b : Nat) : PyData.int ((a : Int) + (b : Int)) = natD (a + b) := by
  unfold natD
  rw [Int.natCast_add]
theorem d_link (c : Gd G) : DefG G "link_over" 5 (spD G.K spLink) :=
  c.df 22 (ps := ["carrier", "seat", "other", "standing"]) rfl rfl (fun _ _ _ _ _ _ us hl => match us, hl with | [_, _, _, _], _ => rfl) fun f fd F =>
    fn_dat F (N := ["carrier", "seat", "other", "standing", "both", "one", "two"]) (fnsc (by kernel_rfl)) (fun ds d ⟨_, _, _, _, _, _, _, _, _, e, _⟩ => by rw [e]; rfl) fun i ds d hn hr ⟨ws, n, i, j, s, hw, hi, hj, hs, e1, e2⟩ => by
      subst e1 e2
      have a : ∀ k, k < ws.length → Amt (at1 ws k) := fun k hk => hw.amt _ (at1_mem hk)
      have a1 := a _ hs
      obtain ⟨b1, b2, b3⟩ := idx3 hs
      have a2 := a s b1
      have a3 := a (s + 2 ^ i) b2
      have a4 := a (s + 2 ^ j) b3
      refine ws_par (i := 5) (j := 6) (eva_cons (ev_call (d_bit c) (hr.mono (by decide)) (evd_cons (ev_v 1) evd_nil) ⟨i, hi, rfl, rfl⟩) (eva_cons (ev_call (d_bit c) (hr.mono (by decide)) (evd_cons (ev_v 2) evd_nil) ⟨j, hj, rfl, rfl⟩) eva_nil)) ?_ rfl hn
      refine ws_set (i := 4) (ev_call (d_times c) hr (evd_cons (ev_ixK (g := pp) sq_t (ev_v 0) (ev_is (ev_add (ev_is (ev_add (ev_v 3) (ev_v 5)) (congrArg Slot.dat (natD_add s (2 ^ i)))) (ev_v 6)) (congrArg Slot.dat (natD_add (s + 2 ^ i) (2 ^ j)))) (at1_some hs)) (evd_cons (ev_ixK (g := pp) sq_t (ev_v 0) (ev_v 3) (at1_some b1)) evd_nil)) ⟨_, _, a1.2.2.ok (by decide), a2.2.2.ok (by decide), rfl, rfl⟩) ?_ hn
      exact ws_ret (ev_call (d_over c) hr (evd_cons (ev_v 4) (evd_cons (ev_call (d_times c) hr (evd_cons (ev_ixK (g := pp) sq_t (ev_v 0) (ev_is (ev_add (ev_v 3) (ev_v 5)) (congrArg Slot.dat (natD_add s (2 ^ i)))) (at1_some b2)) (evd_cons (ev_ixK (g := pp) sq_t (ev_v 0) (ev_is (ev_add (ev_v 3) (ev_v 6)) (congrArg Slot.dat (natD_add s (2 ^ j)))) (at1_some b3)) evd_nil)) ⟨_, _, a3.2.2.ok (by decide), a4.2.2.ok (by decide), rfl, rfl⟩) evd_nil))
        ⟨_, _, (a1.2.2.times a2.2.2).ok (by decide), (a3.2.2.times a4.2.2).ok (by decide), times_pos a3.1 a4.1 a3.2.2.1 a4.2.2.1, rfl, rfl⟩) (.inl rfl)
theorem pairs_len {n : Nat} (hn : n ≤ 5) : ∀ i, (doneB (List.range n) (fun i => List.range (n - (i + 1))) (fun i k => npD (i, i + 1 + k)) i).length ≤ 50000 := fun i => by
  unfold doneB
  have h : ∀ l : List Nat, (l.flatMap fun u => (List.range (n - (u + 1))).map fun k => npD (u, u + 1 + k)).length ≤ 5 * l.length := by
    intro l
    induction l with
    | nil => simp
    | cons a l ih =>
      rw [List.flatMap_cons, List.length_append, List.length_map, List.length_range, List.length_cons]
      omega
  have z := h ((List.range n).take i)
  have : ((List.range n).take i).length ≤ n := by rw [List.length_take, List.length_range]; exact Nat.min_le_right _ _
  exact Nat.le_trans z (by omega)
theorem pairs_done (n : Nat) : doneB (List.range n) (fun i => List.range (n - (i + 1))) (fun i k => npD (i, i + 1 + k)) (List.range n).length = (pairsN n).map npD := by
  unfold doneB pairsN
  rw [List.take_length, List.map_flatMap]
  simp only [List.map_map]
  rfl
theorem d_pairs (c : Gd G) : DefG G "seat_pairs" 2 (spD G.K fun ds d => ∃ ws n, Car ws n ∧ ds = [carD ws] ∧ d = .list ((pairsN n).map npD)) :=
  c.df 23 (ps := ["carrier"]) rfl rfl (fun _ _ _ _ _ _ us hl => match us, hl with | [_], _ => rfl) fun f fd F =>
    fn_dat F (N := ["carrier", "many", "seat", "other"]) (fnsc (by kernel_rfl)) (fun ds d ⟨_, _, _, e, _⟩ => by rw [e]; rfl) fun i ds d hn hr ⟨ws, n, h, e1, e2⟩ => by
      subst e1 e2
      have h4 := h.n4
      refine ws_set (i := 1) (ev_call (d_seats c) hr (evd_cons (ev_v 0) evd_nil) ⟨ws, n, h, rfl, rfl⟩) ?_ hn
      refine ws_ret (μ' := []) (ev_is (ev_lc2 (l := List.range n) (g := natD) (m := fun i => List.range (n - (i + 1))) (g1 := fun i k => natD (i + 1 + k)) (f := fun i k => npD (i, i + 1 + k)) (j := 2) (j2 := 3) rfl hn (evi_n1 (c.fr 83) (by omega) (ev_v 1)) (fun u hu b => ?_) (fun u hu v hv b => ev_tup (evd_cons (ev_v 2) (evd_cons (ev_v 3) evd_nil))) (pairs_len (by omega)) fun u hu => by rw [List.length_range]; omega) (congrArg (fun z => Slot.dat (.list z)) (pairs_done n))) (.inl rfl)
      have hu2 := List.mem_range.mp hu
      exact evi_n2 (l := u + 1) (n := n) (c.fr 83) (by omega) (by omega) (ev_is (ev_add (ev_v 2) ev_int) rfl) (ev_v 1)
end
end Gu
end
section
set_option Elab.async false
set_option linter.all false
set_option maxRecDepth 100000
set_option maxHeartbeats 4000000
set_option exponentiation.threshold 20000
namespace Gu
open PySem PySem.Spec PyProof.Rows L2
theorem numD_inv {l : List PyData} {n i : Nat} {d : PyData} (h : (numD n l)[i]? = some d) : ∃ u, l[i]? = some u ∧ d = .tuple [.int ((n + i : Nat) : Int), u] := by
  have hi := (List.getElem?_eq_some_iff.mp h).1
  rw [numD_len] at hi
  have z := numD_at l n i _ (List.getElem?_eq_getElem hi)
  rw [h] at z
  exact ⟨_, List.getElem?_eq_getElem hi, Option.some.inj z⟩
theorem map_inv {α : Type} {l : List α} {g : α → PyData} {i : Nat} {d : PyData} (h : (l.map g)[i]? = some d) : ∃ u, l[i]? = some u ∧ d = g u := by
  rw [List.getElem?_map] at h
  cases q : l[i]? with
  | none => rw [q] at h; cases h
  | some u =>
    rw [q] at h
    exact ⟨u, rfl, (Option.some.inj h).symm⟩
theorem range_inv {n i u : Nat} (h : (List.range n)[i]? = some u) : u = i ∧ i < n := by
  have hi := (List.getElem?_eq_some_iff.mp h).1
  rw [List.length_range] at hi
  rw [List.getElem?_range hi] at h
  exact ⟨(Option.some.inj h).symm, hi⟩
theorem at1_of {ws : List (Int × Int)} {i : Nat} {u : Int × Int} (h : ws[i]? = some u) : at1 ws i = u := by
  unfold at1
  rw [List.getD_eq_getElem?_getD, h]
  rfl
/-- free standings lie within -/
theorem free_in {n : Nat} (h : n ≤ 4) : ∀ p ∈ pairsN n, (p.1 < n ∧ p.2 < n ∧ p.1 < p.2) ∧ ∀ s ∈ freeF (2 ^ n) p.1 p.2, s + 2 ^ p.1 + 2 ^ p.2 < 2 ^ n := by
  have e : n = 0 ∨ n = 1 ∨ n = 2 ∨ n = 3 ∨ n = 4 := by omega
  rcases e with rfl | rfl | rfl | rfl | rfl <;> decide +kernel
def linksP (ws : List (Int × Int)) (n : Nat) : List (Int × Int) := (pairsN n).flatMap fun p => (freeF ws.length p.1 p.2).map fun s => linkP ws p.1 p.2 s
def StrD (ss : List (Int × Int)) : PyData := .tuple (ss.map pp)
def spWeights (ds : List PyData) (d : PyData) : Prop := ∃ ws n ss, Car ws n ∧ ss.length ≤ 4 ∧ (∀ t ∈ ss, Str2 t) ∧ ds = [carD ws, StrD ss] ∧ d = .list ((wAll ws ss).map pp)
def spShare (ds : List PyData) (d : PyData) : Prop := ∃ (C : Int) (xs : List Int) (ks : List Nat), 0 < C ∧ sm C ∧ (∀ x ∈ xs, 0 < x) ∧ sm xs.sum ∧ 0 < xs.length ∧ xs.length ≤ 100 ∧ (∀ k ∈ ks, k < xs.length) ∧ ks.length ≤ 100 ∧ sm (chosen xs ks) ∧
  ds = [.list (xs.map fun x => pp (nrm x C)), .list (ks.map natD)] ∧ d = pp (nrm (chosen xs ks) xs.sum)
def spPull (ds : List PyData) (d : PyData) : Prop := ∃ ws n ss, ∃ i j : Nat, Car ws n ∧ ss.length ≤ 4 ∧ (∀ t ∈ ss, Str2 t) ∧ i ≤ 100 ∧ j ≤ 100 ∧ ds = [carD ws, StrD ss, natD i, natD j] ∧ d = pp (pullQ (partsL ws ss) i j)
theorem wP_sz {ss : List (Int × Int)} {s : Nat} {w : Int × Int} (hw : Szp 40 w) (h : ∀ t ∈ ss, Str2 t) : ∀ k, k ≤ ss.length → Szp (40 + 300 * k) (wP ss s w k)
  | 0, _ => hw
  | k + 1, hk => by
    have ih := wP_sz (s := s) hw h k (by omega)
    have t := h _ (at1_mem (show k < ss.length by omega))
    unfold wP
    rw [show 40 + 300 * (k + 1) = 40 + 300 * k + 300 by omega]
    split
    · exact ih.times t.2.2
    · exact ⟨ih.1, Nat.lt_of_lt_of_le ih.2.1 (Nat.pow_le_pow_right (by decide) (by omega)), Nat.lt_of_lt_of_le ih.2.2 (Nat.pow_le_pow_right (by decide) (by omega))⟩
section
variable {G : Gv}
theorem d_links (c : Gd G) : DefG G "all_links" 6 (spD G.K fun ds d => ∃ ws n, Car ws n ∧ ds = [carD ws] ∧ d = .list ((linksP ws n).map pp)) :=
  c.df 24 (ps := ["carrier"]) rfl rfl (fun _ _ _ _ _ _ us hl => match us, hl with | [_], _ => rfl) fun f fd F =>
    fn_dat F (N := ["carrier", "found", "seat", "other", "each"]) (fnsc (by kernel_rfl)) (fun ds d ⟨_, _, _, e, _⟩ => by rw [e]; rfl) fun i ds d hn hr ⟨ws, n, h, e1, e2⟩ => by
      subst e1 e2
      have h4 := h.n4
      have l16 := h.len16
      refine ws_set (i := 1) (ev_lst evd_nil) ?_ hn
      refine ws_for (I := fun i ρ μ => ∃ a b e, μ = [] ∧ ρ = [.dat (carD ws), .dat (.list ((((pairsN n).take i).flatMap fun p => (freeF ws.length p.1 p.2).map fun s => linkP ws p.1 p.2 s).map pp)), a, b, e]) bX_own rfl (evi_l (ev_call (d_pairs c) (hr.mono (by decide)) (evd_cons (ev_v 0) evd_nil) ⟨ws, n, h, rfl, rfl⟩)) ⟨.un, .un, .un, rfl, rfl⟩ ?_ ?_
      · rintro i d ρ μ hd ⟨a, b, e, rfl, rfl⟩
        obtain ⟨⟨p1, p2⟩, hp, rfl⟩ := map_inv hd
        have hm := List.mem_of_getElem? hp
        obtain ⟨⟨q1, q2, q3⟩, q4⟩ := free_in h4 _ hm
        rw [← h.len] at q4
        refine ⟨_, evg_two rfl (evg_name (i := 2) hn) (evg_name (i := 3) hn), ?_⟩
        refine ws_set (i := 1) (ev_cat (es' := (freeF ws.length p1 p2).map fun s => pp (linkP ws p1 p2 s)) ?_ (ev_v 1) (ev_lcMap (l := freeF ws.length p1 p2) (g := natD) (f := fun s => pp (linkP ws p1 p2 s)) (j := 4) rfl hn (evi_l (ev_call (d_frees c) (hr.mono (by decide)) (evd_cons (ev_v 0) (evd_cons (ev_v 2) (evd_cons (ev_v 3) evd_nil))) ⟨ws, p1, p2, by omega, by omega, by omega, rfl, rfl⟩)) ?_ fun u hu b => ?_)) (ws_nil ⟨.dat (natD p1), .dat (natD p2), e, rfl, ?_⟩) hn
        · have z : ∀ l : List (Nat × Nat), ((l.flatMap fun p => (freeF ws.length p.1 p.2).map fun s => linkP ws p.1 p.2 s).map pp).length ≤ 16 * l.length := by
            intro l
            induction l with
            | nil => simp
            | cons a l ih =>
              have : (freeF ws.length a.1 a.2).length ≤ ws.length := Nat.le_trans (List.length_filter_le _ _) (by rw [List.length_range]; exact Nat.le_refl _)
              simp only [List.flatMap_cons, List.map_append, List.length_append, List.length_map, List.length_cons] at *
              omega
          have z1 := z ((pairsN n).take i)
          have z2 : ((pairsN n).take i).length ≤ (pairsN n).length := by rw [List.length_take]; exact Nat.min_le_right _ _
          have z3 : (pairsN n).length ≤ 6 := by
            have e : n = 1 ∨ n = 2 ∨ n = 3 ∨ n = 4 := by have := h.n1; omega
            rcases e with rfl | rfl | rfl | rfl <;> decide
          have z4 : (freeF ws.length p1 p2).length ≤ ws.length := Nat.le_trans (List.length_filter_le _ _) (by rw [List.length_range]; exact Nat.le_refl _)
          rw [List.length_map (as := freeF ws.length p1 p2)]
          exact Nat.le_trans (Nat.add_le_add z1 z4) (show _ ≤ 100000 by omega)
        · exact Nat.le_trans (Nat.le_trans (List.length_filter_le _ _) (by rw [List.length_range]; exact l16.2)) (by decide)
        · exact ev_call (d_link c) hr (evd_cons (ev_v 0) (evd_cons (ev_v 2) (evd_cons (ev_v 3) (evd_cons (ev_v 4) evd_nil)))) ⟨ws, n, p1, p2, u, h, by omega, by omega, q4 u hu, rfl, rfl⟩
        · have e2 : (((pairsN n).take (i + 1)).flatMap fun p => (freeF ws.length p.1 p.2).map fun s => linkP ws p.1 p.2 s).map pp = (((pairsN n).take i).flatMap fun p => (freeF ws.length p.1 p.2).map fun s => linkP ws p.1 p.2 s).map pp ++ (freeF ws.length p1 p2).map fun s => pp (linkP ws p1 p2 s) := by
            rw [List.take_add_one, hp, List.flatMap_append, List.map_append]
            simp
          rw [e2]
          rfl
      · rintro ρ μ ⟨a, b, e, rfl, rfl⟩
        refine ws_ret (ev_v 1) (.inl ?_)
        rw [List.length_map, List.take_length]
        rfl
theorem d_weights (c : Gd G) : DefG G "weights_at" 5 (spD G.K spWeights) :=
  c.df 25 (ps := ["carrier", "strengths"]) rfl rfl (fun _ _ _ _ _ _ us hl => match us, hl with | [_, _], _ => rfl) fun f fd F =>
    fn_dat F (N := ["carrier", "strengths", "found", "standing", "weight", "seat", "strength"]) (fnsc (by kernel_rfl)) (fun ds d ⟨_, _, _, _, _, _, e, _⟩ => by rw [e]; rfl) fun i ds d hn hr ⟨ws, n, ss, h, hl, hs, e1, e2⟩ => by
      subst e1 e2
      have l16 := h.len16
      refine ws_set (i := 2) (ev_lstM evd_nil) ?_ hn
      refine ws_for (I := fun i ρ μ => ∃ a b e z, μ = [((wAll ws ss).take i).map pp] ∧ ρ = [.dat (carD ws), .dat (StrD ss), .mut 0, a, b, e, z]) bX_own rfl (evi_enumT (c.fr 84) (ev_v 0)) ⟨.un, .un, .un, .un, rfl, rfl⟩ ?_ ?_
      · rintro i d ρ μ hd ⟨a, b, e, z, rfl, rfl⟩
        obtain ⟨u0, hu0, rfl⟩ := numD_inv hd
        obtain ⟨w, hw, rfl⟩ := map_inv hu0
        have hwm := List.mem_of_getElem? hw
        have hil := (List.getElem?_eq_some_iff.mp hw).1
        refine ⟨_, evg_two rfl (evg_name (i := 3) hn) (evg_name (i := 4) hn), ?_⟩
        refine ws_for (I := fun k ρ μ => ∃ e z, μ = [((wAll ws ss).take i).map pp] ∧ ρ = [.dat (carD ws), .dat (StrD ss), .mut 0, .dat (natD i), .dat (pp (wP ss i w k)), e, z]) bX_own rfl (evi_enumT (c.fr 84) (ev_v 1)) ⟨e, z, rfl, ?_⟩ ?_ ?_
        · rw [Nat.zero_add]
          rfl
        · rintro k d ρ μ hd ⟨e, z, rfl, rfl⟩
          obtain ⟨t0, ht0, rfl⟩ := numD_inv hd
          obtain ⟨t, ht, rfl⟩ := map_inv ht0
          have htm := List.mem_of_getElem? ht
          have hkl := (List.getElem?_eq_some_iff.mp ht).1
          refine ⟨_, evg_two rfl (evg_name (i := 5) hn) (evg_name (i := 6) hn), ?_⟩
          refine ws_set (i := 4) (μ' := [((wAll ws ss).take i).map pp]) (s := .dat (pp (wP ss i w (k + 1)))) (ev_if (k := i.testBit k) (evt_val (ev_call (d_has c) (hr.mono (by decide)) (evd_cons (ev_v 3) (evd_cons (ev_v 5) evd_nil)) ⟨i, k, by omega, by rw [Nat.zero_add]; rfl, rfl⟩)) (fun hk => ?_) fun hk => ?_) (ws_nil ⟨_, _, rfl, rfl⟩) hn
          · have e3 : wP ss i w (k + 1) = timesP (wP ss i w k) t := by
              show (if i.testBit k = true then _ else _) = _
              rw [if_pos hk, at1_of ht]
            rw [e3]
            exact ev_call (d_times c) hr (evd_cons (ev_v 4) (evd_cons (ev_v 6) evd_nil)) ⟨_, _, (wP_sz (h.amt w hwm).2.2 hs k (by omega)).ok (by omega), (hs t htm).2.2.ok (by decide), rfl, rfl⟩
          · have e3 : wP ss i w (k + 1) = wP ss i w k := by
              show (if i.testBit k = true then _ else _) = _
              rw [hk]
              rfl
            rw [e3]
            exact ev_v 4
        · rintro ρ μ ⟨e, z, rfl, rfl⟩
          rw [numD_len, List.length_map]
          refine ws_append (ds := ((wAll ws ss).take i).map pp) (ev_v 2) (ev_v 4) rfl ?_ (ws_nil ⟨_, _, _, _, ?_, rfl⟩)
          · rw [List.length_map, List.length_take]
            unfold wAll
            rw [List.length_map, List.length_range]
            exact Nat.le_trans (Nat.min_le_right _ _) (Nat.le_trans l16.2 (by decide))
          · have e4 : (wAll ws ss)[i]? = some (wP ss i w ss.length) := by
              unfold wAll
              rw [List.getElem?_map, List.getElem?_range hil, ← at1_of hw]
              rfl
            rw [List.take_add_one, e4, List.map_append]
            rfl
      · rintro ρ μ ⟨a, b, e, z, rfl, rfl⟩
        refine ws_ret (ev_v 2) (.inr ⟨0, _, rfl, rfl, ?_⟩)
        rw [numD_len, List.length_map, List.take_of_length_le (by unfold wAll; rw [List.length_map, List.length_range]; exact Nat.le_refl _)]
theorem d_share (c : Gd G) : DefG G "share_of" 6 (spD G.K spShare) :=
  c.df 26 (ps := ["weights", "standings"]) rfl rfl (fun _ _ _ _ _ _ us hl => match us, hl with | [_, _], _ => rfl) fun f fd F =>
    fn_dat F (N := ["weights", "standings", "standing"]) (fnsc (by kernel_rfl)) (fun ds d ⟨_, _, _, _, _, _, _, _, _, _, _, _, e, _⟩ => by rw [e]; rfl) fun i ds d hn hr ⟨C, xs, ks, hC, sC, hx, sx, l0, l1, hk, hkl, sk, e1, e2⟩ => by
      subst e1 e2
      have s0 := sum_pos hx l0
      have c0 : 0 ≤ chosen xs ks := by
        unfold chosen
        have : ∀ l : List Nat, (∀ k ∈ l, k < xs.length) → 0 ≤ (l.map fun k => xs.getD k 0).sum := by
          intro l
          induction l with
          | nil => intro _; simp
          | cons k l ih =>
            intro h
            have := ih fun k hk => h k (List.mem_cons_of_mem _ hk)
            have := hx _ (getD_mem (h k List.mem_cons_self))
            rw [List.map_cons, List.sum_cons]
            omega
        exact this ks hk
      have key : pp (nrm (chosen xs ks) xs.sum) = pp (overP (nrm (chosen xs ks) C) (nrm xs.sum C)) := by
        unfold overP
        rw [nrm_over hC s0]
      rw [key]
      refine ws_ret (μ' := []) (ev_call (d_over c) (hr.mono (by decide)) (evd_cons (ev_call (d_total c) hr (evd_cons (d := .list ((ks.map fun k => xs.getD k 0).map fun x => pp (nrm x C))) ?_ evd_nil) ⟨C, ks.map fun k => xs.getD k 0, hC, sC, ?_, sk, ?_, rfl, rfl⟩) (evd_cons (ev_call (d_total c) hr (evd_cons (ev_v 0) evd_nil) ⟨C, xs, hC, sC, fun x h => Int.le_of_lt (hx x h), sx, by omega, rfl, rfl⟩) evd_nil)) ⟨_, _, okp_nrm hC sk sC, okp_nrm hC sx sC, (nrm_sign hC).2.mpr s0, rfl, rfl⟩) (.inl rfl)
      · refine ev_is (ev_lcMap (l := ks) (g := natD) (f := fun k => pp (nrm (xs.getD k 0) C)) (j := 2) rfl hn (evi_l (ev_v 1)) (Nat.le_trans hkl (by decide)) fun u hu b => ?_) (by rw [List.map_map]; rfl)
        exact ev_ixK (l := xs) (g := fun x => pp (nrm x C)) sq_l (ev_v 0) (ev_v 2) (by rw [List.getD_eq_getElem?_getD, List.getElem?_eq_getElem (hk u hu)]; rfl)
      · intro x h
        obtain ⟨k, hm, rfl⟩ := List.mem_map.mp h
        exact Int.le_of_lt (hx _ (getD_mem (hk k hm)))
      · rw [List.length_map]
        omega
theorem Car.len16' {ws : List (Int × Int)} {n : Nat} (h : Car ws n) : ws.length ≤ 16 := h.len16.2
theorem sm_of {x : Int} {B : Nat} (h : x.natAbs < 2 ^ B) (hB : B ≤ 4400) : sm x := Nat.lt_of_lt_of_le h (Nat.pow_le_pow_right (by decide) hB)
theorem d_pull (c : Gd G) : DefG G "pull_of" 7 (spD G.K spPull) :=
  c.df 27 (ps := ["carrier", "strengths", "seat", "other"]) rfl rfl (fun _ _ _ _ _ _ us hl => match us, hl with | [_, _, _, _], _ => rfl) fun f fd F =>
    fn_dat F (N := ["carrier", "strengths", "seat", "other", "weights", "both", "mine", "its"]) (fnsc (by kernel_rfl)) (fun ds d ⟨_, _, _, _, _, _, _, _, _, _, e, _⟩ => by rw [e]; rfl) fun i ds d hn hr ⟨ws, n, ss, i, j, h, hl, hs, hi, hj, e1, e2⟩ => by
      subst e1 e2
      have l16 := h.len16
      obtain ⟨p1, p2⟩ := lowL_ok h.amt l16.2 hs hl
      have pos := partsL_pos h.amt l16.2 hs
      have lt := partsL_lt h.amt l16.2 hs hl
      have ln := partsL_len ws ss
      have slt : (partsL ws ss).sum.natAbs < 2 ^ 1886 := sum_lt16 lt (by omega)
      have clt : ∀ ks, (chosen (partsL ws ss) (bitsF (partsL ws ss).length ks)).natAbs < 2 ^ 1886 := fun ks => chosen_lt lt bitsF_lt (by have := bitsF_len (partsL ws ss).length ks; omega)
      have shz : ∀ ks, Szp 1886 (shareQ (partsL ws ss) ks) := fun ks => szp_nrm (sum_pos pos (by omega)) (clt ks) slt
      have shr : ∀ ks : List Nat, spShare [.list ((partsL ws ss).map fun x => pp (nrm x (lowL ws ss))), .list ((bitsF ws.length ks).map natD)] (pp (shareQ (partsL ws ss) ks)) := fun ks => by
        refine ⟨lowL ws ss, partsL ws ss, bitsF ws.length ks, p1, sm_of p2 (by decide), pos, sm_of slt (by decide), by omega, by omega, ?_, ?_, ?_, rfl, ?_⟩
        · rw [ln]
          exact bitsF_lt
        · have := bitsF_len ws.length ks
          omega
        · rw [← ln]
          exact sm_of (clt ks) (by decide)
        · unfold shareQ
          rw [ln]
      have wd : PyData.list ((wAll ws ss).map pp) = .list ((partsL ws ss).map fun x => pp (nrm x (lowL ws ss))) := by
        rw [wAll_parts h.amt l16.2 hs, List.map_map]
        rfl
      refine ws_set (i := 4) (ev_is (ev_call (d_weights c) (hr.mono (by decide)) (evd_cons (ev_v 0) (evd_cons (ev_v 1) evd_nil)) ⟨ws, n, ss, h, hl, hs, rfl, rfl⟩) (congrArg Slot.dat wd)) ?_ hn
      refine ws_set (i := 5) (ev_call (d_share c) hr (evd_cons (ev_v 4) (evd_cons (ev_call (d_with c) (hr.mono (by decide)) (evd_cons (ev_v 0) (evd_cons (ev_lst (evd_cons (ev_v 2) (evd_cons (ev_v 3) evd_nil))) evd_nil)) ⟨ws, [i, j], by omega, by simp; omega, Nat.le_of_ble_eq_true rfl, rfl, rfl⟩) evd_nil)) (shr _)) ?_ hn
      refine ws_par (i := 6) (j := 7) (eva_cons (ev_call (d_share c) hr (evd_cons (ev_v 4) (evd_cons (ev_call (d_with c) (hr.mono (by decide)) (evd_cons (ev_v 0) (evd_cons (ev_lst (evd_cons (ev_v 2) evd_nil)) evd_nil)) ⟨ws, [i], by omega, by simp; omega, Nat.le_of_ble_eq_true rfl, rfl, rfl⟩) evd_nil)) (shr _))
        (eva_cons (ev_call (d_share c) hr (evd_cons (ev_v 4) (evd_cons (ev_call (d_with c) (hr.mono (by decide)) (evd_cons (ev_v 0) (evd_cons (ev_lst (evd_cons (ev_v 3) evd_nil)) evd_nil)) ⟨ws, [j], by omega, by simp; omega, Nat.le_of_ble_eq_true rfl, rfl, rfl⟩) evd_nil)) (shr _)) eva_nil)) ?_ rfl hn
      exact ws_ret (ev_call (d_minus c) (hr.mono (by decide)) (evd_cons (ev_v 5) (evd_cons (ev_call (d_times c) (hr.mono (by decide)) (evd_cons (ev_v 6) (evd_cons (ev_v 7) evd_nil)) ⟨_, _, (shz [i]).ok (by decide), (shz [j]).ok (by decide), rfl, rfl⟩) evd_nil)) ⟨_, _, (shz [i, j]).ok (by decide), ((shz [i]).times (shz [j])).ok (by decide), rfl, rfl⟩) (.inl rfl)
end
end Gu
end
section
set_option Elab.async false
set_option linter.all false
set_option maxRecDepth 100000
set_option maxHeartbeats 4000000
set_option exponentiation.threshold 20000
namespace Gu
open PySem PySem.Spec PyProof.Rows L2
def npD3 (r : Nat × Nat × Nat) : PyData := .tuple [natD r.1, natD r.2.1, natD r.2.2]
def firstD : Option (Nat × Nat × Nat) → PyData
  | none => .none
  | some r => npD3 r
def dueD (n : Nat) (r : Nat × Nat × Nat) (t : Nat) : PyData := .tuple [StrD (leanP n r.1 r.2.1 r.2.2 (2 ^ t)), natD r.1, natD r.2.1]
def lowD (ws : List (Int × Int)) (n : Nat) : PyData := match firstP ws n with
  | none => .none
  | some r => match tl.find? (negB ws n r) with
    | none => .none
    | some t => dueD n r t
theorem one_okp : Okp (1, 1) := ⟨by decide, by unfold sm; decide, by unfold sm; decide⟩
theorem inF_nat {a i j : Nat} : inF (natD a) [natD i, natD j] = decide (a = i ∨ a = j) := by
  unfold inF natD eqF
  simp only [List.any_cons, List.any_nil, Bool.or_false]
  rw [Bool.eq_iff_iff]
  simp only [Bool.or_eq_true, decide_eq_true_eq]
  omega
theorem first_mem {ws : List (Int × Int)} {n : Nat} (h : Car ws n) {r : Nat × Nat × Nat} (hr : firstP ws n = some r) : r.1 < n ∧ r.2.1 < n ∧ r.1 < r.2.1 ∧ r.2.2 ∈ freeF ws.length r.1 r.2.1 ∧ badP ws r.1 r.2.1 r.2.2 = true := by
  obtain ⟨p, hp, e⟩ := List.exists_of_findSome?_eq_some hr
  obtain ⟨⟨q1, q2, q3⟩, _⟩ := free_in h.n4 p hp
  obtain ⟨s, hs, e2⟩ := List.exists_of_findSome?_eq_some e
  split at e2
  · rename_i hb
    cases e2
    exact ⟨q1, q2, q3, hs, hb⟩
  · cases e2
section
variable {G : Gv}
theorem d_shunned (c : Gd G) : DefG G "shunned_link" 6 (spD G.K fun ds d => ∃ ws n, Car ws n ∧ ds = [carD ws] ∧ d = firstD (firstP ws n)) :=
  c.df 28 (ps := ["carrier"]) rfl rfl (fun _ _ _ _ _ _ us hl => match us, hl with | [_], _ => rfl) fun f fd F =>
    fn_dat F (N := ["carrier", "seat", "other", "standing"]) (fnsc (by kernel_rfl)) (fun ds d ⟨_, _, _, e, _⟩ => by rw [e]; rfl) fun i ds d hn hr ⟨ws, n, h, e1, e2⟩ => by
      subst e1 e2
      have h4 := h.n4
      have l16 := h.len16
      refine ws_for (I := fun i ρ μ => ((pairsN n).take i).findSome? (firstAt ws) = none ∧ ∃ a b e, μ = [] ∧ ρ = [.dat (carD ws), a, b, e]) bX_own rfl (evi_l (ev_call (d_pairs c) (hr.mono (by decide)) (evd_cons (ev_v 0) evd_nil) ⟨ws, n, h, rfl, rfl⟩)) ⟨rfl, .un, .un, .un, rfl, rfl⟩ ?_ ?_
      · rintro i d ρ μ hd ⟨hno, a, b, e, rfl, rfl⟩
        obtain ⟨⟨p1, p2⟩, hp, rfl⟩ := map_inv hd
        have hm := List.mem_of_getElem? hp
        obtain ⟨⟨q1, q2, q3⟩, q4⟩ := free_in h4 _ hm
        rw [← h.len] at q4
        have q1' : p1 < n := q1
        have q2' : p2 < n := q2
        refine ⟨_, evg_two rfl (evg_name (i := 1) hn) (evg_name (i := 2) hn), ?_⟩
        refine ws_forN (I := fun k ρ μ => ((freeF ws.length p1 p2).take k).findSome? (fun s => if badP ws p1 p2 s then some (p1, p2, s) else none) = none ∧ ∃ e, μ = [] ∧ ρ = [.dat (carD ws), .dat (natD p1), .dat (natD p2), e]) 3 bX_own rfl hn (evi_l (ev_call (d_frees c) (hr.mono (by decide)) (evd_cons (ev_v 0) (evd_cons (ev_v 1) (evd_cons (ev_v 2) evd_nil))) ⟨ws, p1, p2, by omega, by omega, by omega, rfl, rfl⟩)) ⟨rfl, e, rfl, rfl⟩ ?_ ?_
        · rintro k d ρ μ hd ⟨hno2, e, rfl, rfl⟩
          obtain ⟨s, hs, rfl⟩ := map_inv hd
          have hsm := List.mem_of_getElem? hs
          refine ws_ifr (k := badP ws p1 p2 s) (μ1 := []) (evt_val (ev_call (d_below c) (hr.mono (by decide)) (evd_cons (ev_call (d_link c) hr (evd_cons (ev_v 0) (evd_cons (ev_v 1) (evd_cons (ev_v 2) (evd_cons (ev_v 3) evd_nil)))) ⟨ws, n, p1, p2, s, h, by omega, by omega, q4 s hsm, rfl, rfl⟩) (evd_cons c.evOne evd_nil)) ⟨_, (1, 1), (link_ok h (q4 s hsm)).ok (by decide), one_okp, rfl, rfl⟩)) (fun hk => ?_) fun hk => ws_nil ?_
          · refine ws_ret (ev_tup (evd_cons (ev_v 1) (evd_cons (ev_v 2) (evd_cons (ev_v 3) evd_nil)))) (.inl ?_)
            have e1 : firstAt ws (p1, p2) = some (p1, p2, s) := find_at hno2 hs (by rw [hk]; rfl)
            have e2 : firstP ws n = some (p1, p2, s) := find_at hno hp e1
            rw [e2]
            rfl
          · exact ⟨find_none_succ hno2 hs (by rw [hk]; rfl), .dat (natD s), rfl, rfl⟩
        · rintro ρ μ ⟨hno2, e, rfl, rfl⟩
          rw [List.length_map, List.take_length] at hno2
          exact ws_nil ⟨find_none_succ hno hp hno2, _, _, _, rfl, rfl⟩
      · rintro ρ μ ⟨hno, a, b, e, rfl, rfl⟩
        rw [List.length_map, List.take_length] at hno
        refine ws_ret ev_non (.inl ?_)
        rw [show firstP ws n = none from hno]
        rfl
def spLean (ds : List PyData) (d : PyData) : Prop := ∃ ws n, ∃ i j s : Nat, ∃ z : Int, Car ws n ∧ ds = [carD ws, .tuple [natD i, natD j], natD s, .int z] ∧ d = StrD (leanP n i j s z)
theorem d_lean (c : Gd G) : DefG G "leaning_strengths" 2 (spD G.K spLean) :=
  c.df 29 (ps := ["carrier", "pair", "standing", "size"]) rfl rfl (fun _ _ _ _ _ _ us hl => match us, hl with | [_, _, _, _], _ => rfl) fun f fd F =>
    fn_dat F (N := ["carrier", "pair", "standing", "size", "found", "at", "plain"]) (fnsc (by kernel_rfl)) (fun ds d ⟨_, _, _, _, _, _, _, e, _⟩ => by rw [e]; rfl) fun i ds d hn hr ⟨ws, n, i, j, s, z, h, e1, e2⟩ => by
      subst e1 e2
      have h4 := h.n4
      refine ws_set (i := 4) (ev_lstM evd_nil) ?_ hn
      refine ws_forN (I := fun k ρ μ => ∃ a b, μ = [((leanP n i j s z).take k).map pp] ∧ ρ = [.dat (carD ws), .dat (.tuple [natD i, natD j]), .dat (natD s), .dat (.int z), .mut 0, a, b]) 5 bX_own rfl hn (evi_n1 (n := n) (c.fr 83) (by omega) (ev_call (d_seats c) hr (evd_cons (ev_v 0) evd_nil) ⟨ws, n, h, rfl, rfl⟩)) ⟨.un, .un, rfl, rfl⟩ ?_ ?_
      · rintro k d ρ μ hd ⟨a, b, rfl, rfl⟩
        obtain ⟨k', hk, rfl⟩ := map_inv hd
        obtain ⟨rfl, hkn⟩ := range_inv hk
        have ek : (leanP n i j s z)[k']? = some (leanA i j s z k') := by
          unfold leanP
          rw [List.getElem?_map, List.getElem?_range hkn]
          rfl
        refine ws_set (i := 6) (μ' := [((leanP n i j s z).take k').map pp]) (s := .dat (pp (if s.testBit k' then (z, 1) else (1, z)))) (ev_if (k := s.testBit k') (evt_val (ev_call (d_has c) hr (evd_cons (ev_v 2) (evd_cons (ev_v 5) evd_nil)) ⟨s, k', by omega, rfl, rfl⟩)) (fun hb => ?_) fun hb => ?_) ?_ hn
        · rw [hb]
          exact ev_tup (evd_cons (ev_v 3) (evd_cons ev_int evd_nil))
        · rw [hb]
          exact ev_tup (evd_cons ev_int (evd_cons (ev_v 3) evd_nil))
        · refine ws_append (ds := ((leanP n i j s z).take k').map pp) (μ2 := [((leanP n i j s z).take k').map pp]) (d := pp (leanA i j s z k')) (ev_v 4) (ev_if (k := decide (k' = i ∨ k' = j)) (evt_is (evt_in (ds := [natD i, natD j]) sq_t rfl (fun d hd => ?_) (ev_v 5) (ev_v 1)) inF_nat) (fun hb => ?_) fun hb => ?_) rfl ?_ (ws_nil ⟨.dat (natD k'), _, ?_, rfl⟩)
          · rcases List.mem_cons.mp hd with rfl | hd
            · rfl
            · rcases List.mem_singleton.mp hd with rfl
              rfl
          · have e : leanA i j s z k' = (1, 1) := by
              unfold leanA
              rw [if_pos (of_decide_eq_true hb)]
            rw [e]
            exact c.evOne
          · have e : leanA i j s z k' = if s.testBit k' then (z, 1) else (1, z) := by
              unfold leanA
              rw [if_neg (of_decide_eq_false hb)]
            rw [e]
            exact ev_v 6
          · rw [List.length_map, List.length_take]
            exact Nat.le_trans (Nat.min_le_left _ _) (show k' ≤ 100000 by omega)
          · rw [List.take_add_one, ek, List.map_append]
            rfl
      · rintro ρ μ ⟨a, b, rfl, rfl⟩
        refine ws_ret (ev_tupleL (sl_m rfl) (c.fr 79) (ev_v 4)) (.inl ?_)
        rw [List.length_map, List.length_range, List.take_of_length_le (by unfold leanP; rw [List.length_map, List.length_range]; exact Nat.le_refl _)]
        rfl
theorem tl_step : ∀ k, k < 9 → ∃ t, tl[k]? = some t ∧ t ≤ 128 ∧ tl[k + 1]? = some (if t = 0 then 1 else 2 * t) := by decide
theorem tl_at {k t : Nat} (hk : k ≤ 9) (h : tl[k]? = some t) : t ≤ 256 ∧ (k = 9 ↔ t = 256) := by
  have e : k = 0 ∨ k = 1 ∨ k = 2 ∨ k = 3 ∨ k = 4 ∨ k = 5 ∨ k = 6 ∨ k = 7 ∨ k = 8 ∨ k = 9 := by omega
  rcases e with rfl | rfl | rfl | rfl | rfl | rfl | rfl | rfl | rfl | rfl <;> cases h <;> decide
theorem two_pow_one {t : Nat} : (2 : Int) ^ t = 1 ↔ t = 0 := by
  constructor
  · intro h
    rcases Nat.eq_zero_or_pos t with z | z
    · exact z
    · obtain ⟨u, rfl⟩ : ∃ u, t = u + 1 := ⟨t - 1, by omega⟩
      rw [Int.pow_succ] at h
      omega
  · rintro rfl
    rfl
theorem lean_len (n i j s : Nat) (z : Int) : (leanP n i j s z).length = n := by
  unfold leanP
  rw [List.length_map, List.length_range]
theorem fo_lowering (c : Gd G) (f : Addr) (fd : FuncData) (F : FunD G.K "lowering" "lowering" (defArgs (topS 84)) (defBody (topS 84)) (defScope (topS 84)) [] [] f fd) : FnOk G.P G.w G.K G.mg G.base CX0 8 f fd ["carrier"] (spD G.K fun ds d => ∃ ws n, Car ws n ∧ ds = [carD ws] ∧ d = lowD ws n) :=
    fn_dat F (N := ["carrier", "found", "size", "strengths", "seat", "other", "standing"]) (fnsc (by kernel_rfl)) (fun ds d ⟨_, _, _, e, _⟩ => by rw [e]; rfl) fun i ds d hn hr ⟨ws, n, h, e1, e2⟩ => by
      subst e1 e2
      have h4 := h.n4
      refine ws_expr (ev_call (d_check c) (hr.mono (by decide)) (evd_cons (ev_v 0) evd_nil) ⟨ws, n, h, rfl, rfl⟩) ?_
      refine ws_set (i := 1) (ev_call (d_shunned c) (hr.mono (by decide)) (evd_cons (ev_v 0) evd_nil) ⟨ws, n, h, rfl, rfl⟩) ?_ hn
      cases hf : firstP ws n with
      | none =>
        refine ws_ifr (k := true) (evt_isN (d := .none) (ev_v 1) ev_non) (fun _ => ws_ret ev_non (.inl ?_)) fun z => by cases z
        unfold lowD
        rw [hf]
      | some r =>
        obtain ⟨i, j, s⟩ := r
        obtain ⟨m1, m2, m3, m4, m5⟩ := first_mem h hf
        have m1' : i < n := m1
        have m2' : j < n := m2
        refine ws_ifr (k := false) (evt_isN (d := npD3 (i, j, s)) (ev_v 1) ev_non) (fun z => by cases z) fun _ => ?_
        refine ws_asg (ev_v 1) (evg_three rfl (evg_name (i := 4) hn) (evg_name (i := 5) hn) (evg_name (i := 6) hn)) ?_
        refine ws_set (i := 2) ev_int ?_ hn
        refine ws_set (i := 3) (ev_call (d_lean c) (hr.mono (by decide)) (evd_cons (ev_v 0) (evd_cons (ev_tup (evd_cons (ev_v 4) (evd_cons (ev_v 5) evd_nil))) (evd_cons (ev_v 6) (evd_cons (ev_v 2) evd_nil)))) ⟨ws, n, i, j, s, 1, h, rfl, rfl⟩) ?_ hn
        refine ws_while (n := 9) (I := fun m ρ μ => ∃ k t, m = 9 - k ∧ k ≤ 9 ∧ tl[k]? = some t ∧ (∀ k', k' < k → ∀ v, tl[k']? = some v → negB ws n (i, j, s) v = false) ∧ μ = [] ∧
          ρ = [.dat (carD ws), .dat (npD3 (i, j, s)), .dat (.int (2 ^ t)), .dat (StrD (leanP n i j s (2 ^ t))), .dat (natD i), .dat (natD j), .dat (natD s)]) bX_own ⟨0, 0, rfl, by decide, rfl, fun k' z => by omega, rfl, rfl⟩ ?_
        rintro m ρ μ ⟨k, t, rfl, hk, ht, hno, rfl, rfl⟩
        obtain ⟨ht2, ht3⟩ := tl_at hk ht
        refine ⟨!negB ws n (i, j, s) t, [], evt_is (evt_ge (ev_ixT (ds := [.int (pullQ (partsL ws (leanP n i j s (2 ^ t))) i j).1, .int (pullQ (partsL ws (leanP n i j s (2 ^ t))) i j).2]) (ev_call (d_pull c) hr (evd_cons (ev_v 0) (evd_cons (ev_v 3) (evd_cons (ev_v 4) (evd_cons (ev_v 5) evd_nil)))) ⟨ws, n, leanP n i j s (2 ^ t), i, j, h, by rw [lean_len]; omega, lean_ok ht2, by omega, by omega, rfl, rfl⟩) ev_int) ev_int) ?_, fun hb => ?_, fun hb => ?_⟩
        · unfold negB
          rw [Bool.eq_iff_iff]
          simp only [decide_eq_true_eq, Bool.not_eq_true', decide_eq_false_iff_not]
          omega
        · have hb' : negB ws n (i, j, s) t = false := by
            cases q : negB ws n (i, j, s) t with
            | false => rfl
            | true => rw [q] at hb; cases hb
          have hk9 : k < 9 := by
            rcases Nat.lt_or_ge k 9 with z | z
            · exact z
            · have : k = 9 := by omega
              have e := ht3.mp this
              subst e
              rw [neg256 h hf] at hb'
              cases hb'
          obtain ⟨t', ht', htl, htn⟩ := tl_step k hk9
          rw [ht] at ht'
          cases ht'
          have hno' : ∀ k', k' < k + 1 → ∀ v, tl[k']? = some v → negB ws n (i, j, s) v = false := fun k' hk' v hv => by
            rcases Nat.lt_or_ge k' k with z | z
            · exact hno k' z v hv
            · have : k' = k := by omega
              subst this
              rw [ht] at hv
              cases hv
              exact hb'
          refine ws_set (i := 2) (μ' := []) (s := .dat (.int (2 ^ (if t = 0 then 1 else 2 * t)))) (ev_if (k := decide ((2 : Int) ^ t = 1)) (evt_eq (ev_v 2) ev_int) (fun hb => ?_) fun hb => ?_) ?_ hn
          · rw [if_pos (two_pow_one.mp (of_decide_eq_true hb))]
            exact ev_int
          · have t0 : ¬ t = 0 := fun z => of_decide_eq_false hb (two_pow_one.mpr z)
            rw [if_neg t0]
            refine ev_is (ev_mul (mulx_ok (a := 200) (b := 200) ?_ ?_ (by decide)) (ev_v 2) (ev_v 2)) ?_
            · rw [Int.natAbs_pow]
              exact Nat.pow_lt_pow_right (by decide) (by omega)
            · rw [Int.natAbs_pow]
              exact Nat.pow_lt_pow_right (by decide) (by omega)
            · rw [← Int.pow_add, Nat.two_mul]
          · refine ws_set (i := 3) (ev_call (d_lean c) (hr.mono (by decide)) (evd_cons (ev_v 0) (evd_cons (ev_tup (evd_cons (ev_v 4) (evd_cons (ev_v 5) evd_nil))) (evd_cons (ev_v 6) (evd_cons (ev_v 2) evd_nil)))) ⟨ws, n, i, j, s, _, h, rfl, rfl⟩) (ws_nil ?_) hn
            exact ⟨9 - (k + 1), by omega, k + 1, _, rfl, by omega, htn, hno', rfl, rfl⟩
        · have hb' : negB ws n (i, j, s) t = true := by
            cases q : negB ws n (i, j, s) t with
            | true => rfl
            | false => rw [q] at hb; cases hb
          refine ws_ret (ev_tup (evd_cons (ev_v 3) (evd_cons (ev_v 4) (evd_cons (ev_v 5) evd_nil)))) (.inl ?_)
          unfold lowD
          rw [hf]
          show _ = Slot.dat (match tl.find? (negB ws n (i, j, s)) with
            | none => PyData.none
            | some t => dueD n (i, j, s) t)
          rw [find_negs hno ht hb']
          rfl
theorem d_lowering (c : Gd G) : DefG G "lowering" 8 (spD G.K fun ds d => ∃ ws n, Car ws n ∧ ds = [carD ws] ∧ d = lowD ws n) :=
  c.df 30 (ps := ["carrier"]) rfl rfl (fun _ _ _ _ _ _ us hl => match us, hl with | [_], _ => rfl) (fo_lowering c)
def certD (ws : List (Int × Int)) (n : Nat) : PyData := match firstP ws n with
  | none => .tuple [.tuple [.str "draws", carD ws], .tuple []]
  | some _ => .tuple [.tuple [.str "lowers", carD ws], lowD ws n]
theorem lowD_none {ws : List (Int × Int)} {n : Nat} (h : Car ws n) : isNon (lowD ws n) = (firstP ws n).isNone := by
  unfold lowD
  cases hf : firstP ws n with
  | none => rfl
  | some r =>
    have z := neg256 h hf
    cases q : tl.find? (negB ws n r) with
    | none =>
      have y := List.find?_eq_none.mp q 256 (by decide)
      exact absurd z y
    | some t =>
      show isNon (match tl.find? (negB ws n r) with
        | none => PyData.none
        | some t => dueD n r t) = _
      rw [q]
      rfl
theorem d_certify (c : Gd G) : DefG G "certify_draws" 9 (spD G.K fun ds d => ∃ ws n, Car ws n ∧ ds = [carD ws] ∧ d = certD ws n) :=
  c.df 31 (ps := ["carrier"]) rfl rfl (fun _ _ _ _ _ _ us hl => match us, hl with | [_], _ => rfl) fun f fd F =>
    fn_dat F (N := ["carrier", "found"]) (fnsc (by kernel_rfl)) (fun ds d ⟨_, _, _, e, _⟩ => by rw [e]; rfl) fun i ds d hn hr ⟨ws, n, h, e1, e2⟩ => by
      subst e1 e2
      refine ws_set (i := 1) (ev_call (d_lowering c) hr (evd_cons (ev_v 0) evd_nil) ⟨ws, n, h, rfl, rfl⟩) ?_ hn
      refine ws_ifr (k := (firstP ws n).isNone) (evt_is (evt_isN (d := lowD ws n) (ev_v 1) ev_non) (lowD_none h)) (fun hk => ?_) fun hk => ?_
      · refine ws_ret (ev_tup (evd_cons (ev_tup (evd_cons ev_str (evd_cons (ev_v 0) evd_nil))) (evd_cons (ev_tup evd_nil) evd_nil))) (.inl ?_)
        unfold certD
        cases q : firstP ws n with
        | none => rfl
        | some r => rw [q] at hk; cases hk
      · refine ws_ret (ev_tup (evd_cons (ev_tup (evd_cons ev_str (evd_cons (ev_v 0) evd_nil))) (evd_cons (ev_v 1) evd_nil))) (.inl ?_)
        unfold certD
        cases q : firstP ws n with
        | none => rw [q] at hk; cases hk
        | some r => rfl
end
end Gu
end
section
set_option Elab.async false
set_option linter.all false
set_option maxRecDepth 100000
set_option maxHeartbeats 4000000
set_option exponentiation.threshold 20000
namespace Gu
open PySem PySem.Spec PyProof.Rows L2
def okB (n : Nat) (ss : List (Int × Int)) (i j : Nat) : Bool := decide (ss.length = n) && ss.all amtB && decide (i < n) && decide (j < n) && !decide (i = j)
def clmD (w : Str) (ws : List (Int × Int)) : PyData := .tuple [.str w, carD ws]
def papD (ss : List (Int × Int)) (i j : Nat) : PyData := .tuple [StrD ss, natD i, natD j]
inductive Pap (n : Nat) : PyData → Option (List (Int × Int) × Nat × Nat) → Prop
  | len {l : List PyData} (h : l.length ≠ 3) : Pap n (.tuple l) none
  | lst {l : List PyData} {x y : PyData} : Pap n (.tuple [.list l, x, y]) none
  | ok {ss : List (Int × Int)} {i j : Nat} (h1 : ss.length ≤ 100) (h2 : i ≤ 100) (h3 : j ≤ 100) : Pap n (papD ss i j) (some (ss, i, j))
def papB (n : Nat) : Option (List (Int × Int) × Nat × Nat) → Bool
  | none => false
  | some (ss, i, j) => okB n ss i j
def spIsLow (ds : List PyData) (d : PyData) : Prop := ∃ ws n q o, Car ws n ∧ Pap n q o ∧ ds = [carD ws, q] ∧ d = .bool (papB n o)
def lowB (ws : List (Int × Int)) (n : Nat) : Option (List (Int × Int) × Nat × Nat) → Bool
  | none => false
  | some (ss, i, j) => okB n ss i j && decide ((pullQ (partsL ws ss) i j).1 < 0)
def PapS : Option (List (Int × Int) × Nat × Nat) → Prop
  | none => True
  | some (ss, _, _) => ∀ t ∈ ss, Szp 300 t
/-- a claim and a paper: what is answered -/
inductive Ask (ws : List (Int × Int)) (n : Nat) : PyData → PyData → Bool → Prop
  | draws : Ask ws n (clmD "draws" ws) (.tuple []) (firstP ws n).isNone
  | lowers {q : PyData} {o : Option (List (Int × Int) × Nat × Nat)} (h : Pap n q o) (hs : PapS o) : Ask ws n (clmD "lowers" ws) q (lowB ws n o)
def spAsk (ds : List PyData) (d : PyData) : Prop := ∃ ws n u q b, Car ws n ∧ Ask ws n u q b ∧ ds = [u, q] ∧ d = .bool b
def spClaim (ds : List PyData) (d : PyData) : Prop := ∃ ws n, ∃ w : Str, Car ws n ∧ (w = "draws" ∨ w = "lowers") ∧ ds = [clmD w ws] ∧ d = .bool true
theorem okB_str {n : Nat} {ss : List (Int × Int)} {i j : Nat} (h : okB n ss i j = true) (hs : ∀ t ∈ ss, Szp 300 t) : ss.length = n ∧ (∀ t ∈ ss, Str2 t) := by
  unfold okB at h
  simp only [Bool.and_eq_true, decide_eq_true_eq] at h
  obtain ⟨⟨⟨⟨h1, h2⟩, _⟩, _⟩, _⟩ := h
  refine ⟨h1, fun t ht => ?_⟩
  have z := List.all_eq_true.mp h2 t ht
  unfold amtB at z
  simp only [Bool.and_eq_true, decide_eq_true_eq] at z
  exact ⟨z.2, z.1.2, hs t ht⟩
theorem any_find {α β : Type} {l : List α} {f : α → List β} {g : β → Bool} {r : α → β → Bool} : True := trivial
theorem links_bad (ws : List (Int × Int)) (n : Nat) : ((linksP ws n).any fun l => belowP l (1, 1)) = !(firstP ws n).isNone := by
  unfold linksP firstP
  rw [List.any_flatMap]
  induction pairsN n with
  | nil => rfl
  | cons p l ih =>
    rw [List.any_cons, List.findSome?_cons, ih]
    have e : ((freeF ws.length p.1 p.2).map fun s => linkP ws p.1 p.2 s).any (fun l => belowP l (1, 1)) = !(firstAt ws p).isNone := by
      unfold firstAt
      rw [List.any_map]
      induction freeF ws.length p.1 p.2 with
      | nil => rfl
      | cons s l2 ih2 =>
        rw [List.any_cons, List.findSome?_cons, ih2]
        show (badP ws p.1 p.2 s || _) = _
        cases badP ws p.1 p.2 s <;> simp
    rw [e]
    cases firstAt ws p <;> simp
theorem lay_pairs : ∀ l : List (Int × Int), PyData.canLayAll0 (l.map pp) = true ∧ PyData.depthAll (l.map pp) ≤ 2 := by
  intro l
  induction l with
  | nil => simp [PyData.canLayAll0, PyData.depthAll]
  | cons a l ih =>
    obtain ⟨h1, h2⟩ := ih
    have e : (pp a).canLay0 = true ∧ (pp a).depth ≤ 2 := by simp [pp, pr, PyData.canLay0, PyData.canLayAll0, PyData.depth, PyData.depthAll]
    simp only [List.map_cons, PyData.canLayAll0, PyData.depthAll, e.1, h1, Bool.and_self, true_and]
    omega
theorem shaped_clm (w : Str) (hw : (PyData.str w).canLay0 = true) (ws : List (Int × Int)) : SeqAt.shaped (clmD w ws) = true := by
  obtain ⟨h1, h2⟩ := lay_pairs ws
  unfold SeqAt.shaped clmD carD
  simp only [PyData.canLay0, PyData.canLayAll0, PyData.depth, PyData.depthAll] at hw ⊢
  simp only [h1, hw, Bool.and_self, Bool.true_and]
  exact decide_eq_true (by omega)
section
variable {G : Gv}
theorem d_islow (c : Gd G) : DefG G "is_lowering" 5 (spD G.K spIsLow) :=
  c.df 32 (ps := ["carrier", "paper"]) rfl rfl (fun _ _ _ _ _ _ us hl => match us, hl with | [_, _], _ => rfl) fun f fd F =>
    fn_dat F (N := ["carrier", "paper", "many", "strengths", "seat", "other", "each"]) (fnsc (by kernel_rfl)) (fun ds d ⟨_, _, _, _, _, _, e, _⟩ => by rw [e]; rfl) fun i ds d hn hr ⟨ws, n, q, o, h, hq, e1, e2⟩ => by
      subst e1 e2
      have h4 := h.n4
      cases hq with
      | @len l hl =>
        refine ws_ifr (k := true) (μ1 := []) (evt_of (evw_or' (k := false) (l := true) (evt_not (k := true) (evt_val (ev_isi (d := .tuple l) (T := "tuple") (c.fr 76) (c.fr 79) boot_tuple0 rfl (ev_v 1)))) fun _ => evw_or (k := true) (evt_is (evt_ne (ev_len (ds := l) sq_t (c.fr 80) (ev_v 1)) ev_int) ?_) (fun z => by cases z) fun _ => ⟨rfl, rfl⟩)) (fun _ => ws_ret ev_bl (.inl rfl)) fun z => by cases z
        rw [decide_eq_false (by omega)]
        rfl
      | @lst l x y =>
        exact ws_ifr (k := true) (μ1 := []) (evt_of (evw_or' (k := false) (l := true) (evt_not (k := true) (evt_val (ev_isi (d := .tuple [.list l, x, y]) (T := "tuple") (c.fr 76) (c.fr 79) boot_tuple0 rfl (ev_v 1)))) fun _ => evw_or' (k := false) (l := true) (evt_is (evt_ne (ev_len (ds := [.list l, x, y]) sq_t (c.fr 80) (ev_v 1)) ev_int) rfl) fun _ =>
          evw_or1 (evt_not (k := false) (evt_val (ev_isi (d := .list l) (T := "tuple") (c.fr 76) (c.fr 79) boot_tuple0 rfl (ev_ixT (ev_v 1) ev_int)))))) (fun _ => ws_ret ev_bl (.inl rfl)) fun z => by cases z
      | @ok ss i j hl hi hj =>
        refine ws_ifr (k := false) (μ1 := []) (evt_of (evw_or' (k := false) (l := false) (evt_not (k := true) (evt_val (ev_isi (d := papD ss i j) (T := "tuple") (c.fr 76) (c.fr 79) boot_tuple0 rfl (ev_v 1)))) fun _ => evw_or' (k := false) (l := false) (evt_is (evt_ne (ev_len (ds := [StrD ss, natD i, natD j]) sq_t (c.fr 80) (ev_v 1)) ev_int) rfl) fun _ =>
          evw_or1 (evt_not (k := true) (evt_val (ev_isi (d := StrD ss) (T := "tuple") (c.fr 76) (c.fr 79) boot_tuple0 rfl (ev_ixT (ds := [StrD ss, natD i, natD j]) (ev_v 1) ev_int)))))) (fun z => by cases z) fun _ => ?_
        refine ws_asg (ev_v 1) (evg_three rfl (evg_name (i := 3) hn) (evg_name (i := 4) hn) (evg_name (i := 5) hn)) ?_
        refine ws_set (i := 2) (ev_call (d_seats c) (hr.mono (by decide)) (evd_cons (ev_v 0) evd_nil) ⟨ws, n, h, rfl, rfl⟩) ?_ hn
        refine ws_ifr (k := !decide (ss.length = n) || !ss.all amtB) (μ1 := []) (evt_of (evw_or' (evt_is (evt_ne (ev_len (ds := ss.map pp) sq_t (c.fr 80) (ev_v 3)) (ev_v 2)) ?_) fun _ => evw_or1 (evt_not (evt_val (ev_allM (l := ss) (q := amtB) rfl (c.fr 81) (ev_lcMap (l := ss) (g := pp) (j := 6) rfl hn (evi_t (ev_v 3)) (Nat.le_trans hl (by decide)) fun u hu b => ev_call (d_amount c) hr (evd_cons (ev_v 6) evd_nil) ⟨u, rfl, rfl⟩)))))) (fun hk => ws_ret ev_bl (.inl ?_)) fun hk => ?_
        · rw [List.length_map, Bool.eq_iff_iff]
          simp only [Bool.not_eq_true', decide_eq_false_iff_not]
          omega
        · have e : papB n (some (ss, i, j)) = false := by
            show okB n ss i j = false
            unfold okB
            cases h1 : decide (ss.length = n) with
            | false => rfl
            | true =>
              rw [h1] at hk
              have h2 : ss.all amtB = false := by simpa using hk
              rw [h2]
              rfl
          rw [e]
        · have e1 : decide (ss.length = n) = true := by
            cases h1 : decide (ss.length = n) with
            | false => rw [h1] at hk; cases hk
            | true => rfl
          have e2 : ss.all amtB = true := by
            cases h2 : ss.all amtB with
            | false => rw [h2, e1] at hk; cases hk
            | true => rfl
          have e3 : papB n (some (ss, i, j)) = (decide (i < n) && (decide (j < n) && !decide (i = j))) := by
            show okB n ss i j = _
            unfold okB
            rw [e1, e2, Bool.true_and, Bool.true_and, Bool.and_assoc]
          rw [e3]
          have bt : ∀ u : Nat, (decide ((0 : Int) ≤ (u : Nat)) && decide (((u : Nat) : Int) ≤ (n : Nat) - 1)) = decide (u < n) := fun u => by
            rw [Bool.eq_iff_iff]
            simp only [Bool.and_eq_true, decide_eq_true_eq]
            omega
          refine ws_ret (μ' := []) (ev_and' (ev_is (ev_call (d_between c) (hr.mono (by decide)) (evd_cons (ev_v 4) (evd_cons ev_int (evd_cons (ev_sub (ev_v 2) ev_int) evd_nil))) ⟨(i : Nat), 0, (n : Nat) - 1, rfl, rfl⟩) (congrArg (fun z => Slot.dat (.bool z)) (bt i))) fun _ => ev_and' (ev_is (ev_call (d_between c) (hr.mono (by decide)) (evd_cons (ev_v 5) (evd_cons ev_int (evd_cons (ev_sub (ev_v 2) ev_int) evd_nil))) ⟨(j : Nat), 0, (n : Nat) - 1, rfl, rfl⟩) (congrArg (fun z => Slot.dat (.bool z)) (bt j))) fun _ => ev_one (ev_is (ev_ne (ev_v 4) (ev_v 5)) ?_)) (.inl rfl)
          have e4 : (!decide (((i : Nat) : Int) = ((j : Nat) : Int))) = !decide (i = j) := by
            rw [Bool.eq_iff_iff]
            simp only [Bool.not_eq_true', decide_eq_false_iff_not]
            omega
          rw [e4]
theorem d_shows (c : Gd G) : DefG G "shows_draws" 8 (spD G.K spAsk) :=
  c.df 33 (ps := ["claim", "paper"]) rfl rfl (fun _ _ _ _ _ _ us hl => match us, hl with | [_, _], _ => rfl) fun f fd F =>
    fn_dat F (N := ["claim", "paper", "word", "carrier", "strengths", "seat", "other", "each"]) (fnsc (by kernel_rfl)) (fun ds d ⟨_, _, _, _, _, _, _, e, _⟩ => by rw [e]; rfl) fun i ds d hn hr ⟨ws, n, u, q, b, h, ha, e1, e2⟩ => by
      subst e1 e2
      have h4 := h.n4
      cases ha with
      | draws =>
        refine ws_asg (ev_v 0) (evg_two rfl (evg_name (i := 2) hn) (evg_name (i := 3) hn)) ?_
        refine ws_ifr (k := true) (evt_is (evt_eqS (x := "draws") (y := "draws") (ev_v 2) ev_str) (by decide)) (fun _ => ?_) fun z => by cases z
        refine ws_ret (μ' := []) (ev_and' (k := true) (l := (firstP ws n).isNone) (ev_is (ev_eqD (d := .tuple []) (d' := .tuple []) (by have := hr.un; omega) rfl rfl (ev_v 1) (ev_tup evd_nil)) rfl) fun _ => ev_one (ev_is (ev_not (ev_anyM (l := linksP ws n) (q := fun l => belowP l (1, 1)) rfl (c.fr 82) (ev_lcMap (l := linksP ws n) (g := pp) (j := 7) rfl hn (evi_l (ev_call (d_links c) (hr.mono (by decide)) (evd_cons (ev_v 3) evd_nil) ⟨ws, n, h, rfl, rfl⟩)) ?_ fun u hu b => ?_))) ?_)) (.inl rfl)
        · have z : ∀ l : List (Nat × Nat), (l.flatMap fun p => (freeF ws.length p.1 p.2).map fun s => linkP ws p.1 p.2 s).length ≤ 16 * l.length := by
            intro l
            induction l with
            | nil => simp
            | cons a l ih =>
              have l16 := h.len16
              have : (freeF ws.length a.1 a.2).length ≤ ws.length := Nat.le_trans (List.length_filter_le _ _) (by rw [List.length_range]; exact Nat.le_refl _)
              simp only [List.flatMap_cons, List.length_append, List.length_map, List.length_cons] at *
              omega
          have z3 : (pairsN n).length ≤ 6 := by
            have e : n = 1 ∨ n = 2 ∨ n = 3 ∨ n = 4 := by have := h.n1; omega
            rcases e with rfl | rfl | rfl | rfl <;> decide
          exact Nat.le_trans (z (pairsN n)) (by omega)
        · obtain ⟨p, hp, hu2⟩ := List.mem_flatMap.mp hu
          obtain ⟨s, hs, rfl⟩ := List.mem_map.mp hu2
          obtain ⟨_, q4⟩ := free_in h4 _ hp
          rw [← h.len] at q4
          exact ev_call (d_below c) (hr.mono (by decide)) (evd_cons (ev_v 7) (evd_cons c.evOne evd_nil)) ⟨_, (1, 1), (link_ok h (q4 s hs)).ok (by decide), one_okp, rfl, rfl⟩
        · rw [links_bad, Bool.not_not]
      | @lowers q o hq hs =>
        refine ws_asg (ev_v 0) (evg_two rfl (evg_name (i := 2) hn) (evg_name (i := 3) hn)) ?_
        refine ws_ifr (k := false) (evt_is (evt_eqS (x := "lowers") (y := "draws") (ev_v 2) ev_str) (by decide)) (fun z => by cases z) fun _ => ?_
        refine ws_ifr (k := !papB n o) (evt_not (evt_val (ev_call (d_islow c) (hr.mono (by decide)) (evd_cons (ev_v 3) (evd_cons (ev_v 1) evd_nil)) ⟨ws, n, q, o, h, hq, rfl, rfl⟩))) (fun hk => ?_) fun hk => ?_
        · have e : lowB ws n o = false := by
            have e1 : papB n o = false := by simpa using hk
            cases o with
            | none => rfl
            | some o =>
              obtain ⟨ss, i, j⟩ := o
              show (okB n ss i j && _) = false
              rw [show okB n ss i j = false from e1]
              rfl
          rw [e]
          exact ws_ret ev_bl (.inl rfl)
        · have e1 : papB n o = true := by simpa using hk
          cases hq with
          | len _ => cases e1
          | lst => cases e1
          | @ok ss i j l1 l2 l3 =>
            have e2 : okB n ss i j = true := e1
            obtain ⟨o1, o2⟩ := okB_str e2 hs
            refine ws_asg (ev_v 1) (evg_three rfl (evg_name (i := 4) hn) (evg_name (i := 5) hn) (evg_name (i := 6) hn)) ?_
            refine ws_ret (ev_lt (ev_ixT (ds := [.int (pullQ (partsL ws ss) i j).1, .int (pullQ (partsL ws ss) i j).2]) (ev_call (d_pull c) hr (evd_cons (ev_v 3) (evd_cons (ev_v 4) (evd_cons (ev_v 5) (evd_cons (ev_v 6) evd_nil)))) ⟨ws, n, ss, i, j, h, by omega, o2, l2, l3, rfl, rfl⟩) ev_int) ev_int) (.inl ?_)
            show _ = Slot.dat (.bool (okB n ss i j && _))
            rw [e2, Bool.true_and]
theorem kin_strs {w : Str} {ls : List PyData} (h : (ls.all fun d => kin d (.str "")) = true) : ∀ d, d ∈ ls → kin d (.str w) = true := fun d hd => by
  have z := List.all_eq_true.mp h d hd
  cases d <;> first | (cases z; done) | rfl
theorem d_isone (c : Gd G) : DefG G "is_of_one" 6 (spD G.K spClaim) :=
  c.df 34 (ps := ["claim"]) rfl rfl (fun _ _ _ _ _ _ us hl => match us, hl with | [_], _ => rfl) fun f fd F =>
    fn_dat F (N := ["claim", "word"]) (fnsc (by kernel_rfl)) (fun ds d ⟨_, _, _, _, _, e, _⟩ => by rw [e]; rfl) fun i ds d hn hr ⟨ws, n, w, h, hw, e1, e2⟩ => by
      subst e1 e2
      refine ws_set (i := 1) (ev_ixT (ds := [.str w, carD ws]) (ev_v 0) ev_int) ?_ hn
      refine ws_ifr (k := false) (μ1 := []) (evt_of (evw_or' (k := false) (l := false) (evt_is (evt_lt (ev_len (ds := [.str w, carD ws]) sq_t (c.fr 80) (ev_v 0)) ev_int) rfl) fun _ => evw_or1 (evt_not (k := true) (evt_val (ev_call (d_iscarrier c) hr (evd_cons (ev_ixT (ds := [.str w, carD ws]) (ev_v 0) ev_int) evd_nil) ⟨ws, n, h, rfl, rfl⟩))))) (fun z => by cases z) fun _ => ?_
      refine ws_ifr (k := false) (evt_is (evt_in sq_t rfl (kin_strs rfl) (ev_v 1) (ev_tup (evd_cons ev_str (evd_cons ev_str evd_nil)))) ?_) (fun z => by cases z) fun _ => ?_
      · rcases hw with rfl | rfl <;> decide
      refine ws_ifr (k := false) (evt_is (evt_in sq_t rfl (kin_strs rfl) (ev_v 1) (ev_tup (evd_cons ev_str (evd_cons ev_str evd_nil)))) ?_) (fun z => by cases z) fun _ => ?_
      · rcases hw with rfl | rfl <;> decide
      exact ws_ret (ev_is (ev_eq (ev_len (ds := [.str w, carD ws]) sq_t (c.fr 80) (ev_v 0)) ev_int) rfl) (.inl rfl)
theorem d_isclaim (c : Gd G) : DefG G "is_claim" 7 (spD G.K spClaim) :=
  c.df 35 (ps := ["claim"]) rfl rfl (fun _ _ _ _ _ _ us hl => match us, hl with | [_], _ => rfl) fun f fd F =>
    fn_dat F (N := ["claim", "word"]) (fnsc (by kernel_rfl)) (fun ds d ⟨_, _, _, _, _, e, _⟩ => by rw [e]; rfl) fun i ds d hn hr ⟨ws, n, w, h, hw, e1, e2⟩ => by
      subst e1 e2
      refine ws_ifr (k := false) (μ1 := []) (evt_of (evw_or' (k := false) (l := false) (evt_not (k := true) (evt_val (ev_isi (d := clmD w ws) (T := "tuple") (c.fr 76) (c.fr 79) boot_tuple0 rfl (ev_v 0)))) fun _ => evw_or' (k := false) (l := false) (evt_is (evt_eqD (d := clmD w ws) (d' := .tuple []) (by have := hr.un; omega) ?_ rfl (ev_v 0) (ev_tup evd_nil)) ?_) fun _ => evw_or1 (evt_not (k := true) (evt_val (ev_isi (d := .str w) (T := "str") (c.fr 76) (c.fr 92) boot_str0 rfl (ev_ixT (ds := [.str w, carD ws]) (ev_v 0) ev_int)))))) (fun z => by cases z) fun _ => ?_
      · refine shaped_clm w ?_ ws
        rcases hw with rfl | rfl <;> decide +kernel
      · unfold clmD
        simp [PyData.eqv, PyData.eqvAll]
      refine ws_set (i := 1) (ev_ixT (ds := [.str w, carD ws]) (ev_v 0) ev_int) ?_ hn
      refine ws_ifr (k := false) (evt_is (evt_in sq_t rfl (kin_strs rfl) (ev_v 1) (ev_tup (evd_cons ev_str (evd_cons ev_str (evd_cons ev_str (evd_cons ev_str evd_nil)))))) ?_) (fun z => by cases z) fun _ => ?_
      · rcases hw with rfl | rfl <;> decide
      refine ws_ifr (k := false) (evt_is (evt_in sq_t rfl (kin_strs rfl) (ev_v 1) (ev_tup (evd_cons ev_str (evd_cons ev_str (evd_cons ev_str (evd_cons ev_str evd_nil)))))) ?_) (fun z => by cases z) fun _ => ?_
      · rcases hw with rfl | rfl <;> decide
      refine ws_ifr (k := true) (evt_is (evt_in sq_t rfl (kin_strs rfl) (ev_v 1) (ev_tup (evd_cons ev_str (evd_cons ev_str (evd_cons ev_str (evd_cons ev_str evd_nil)))))) ?_) (fun _ => ?_) fun z => by cases z
      · rcases hw with rfl | rfl <;> decide
      exact ws_ret (ev_call (d_isone c) hr (evd_cons (ev_v 0) evd_nil) ⟨ws, n, w, h, hw, rfl, rfl⟩) (.inl rfl)
theorem Ask.clm {ws : List (Int × Int)} {n : Nat} {u q : PyData} {b : Bool} (h : Ask ws n u q b) : ∃ w : Str, (w = "draws" ∨ w = "lowers") ∧ u = clmD w ws := by
  cases h with
  | draws => exact ⟨_, .inl rfl, rfl⟩
  | lowers _ _ => exact ⟨_, .inr rfl, rfl⟩
theorem d_showsof (c : Gd G) : DefG G "shows_of_carriers" 9 (spD G.K spAsk) :=
  c.df 36 (ps := ["claim", "paper"]) rfl rfl (fun _ _ _ _ _ _ us hl => match us, hl with | [_, _], _ => rfl) fun f fd F =>
    fn_dat F (N := ["claim", "paper", "word"]) (fnsc (by kernel_rfl)) (fun ds d ⟨_, _, _, _, _, _, _, e, _⟩ => by rw [e]; rfl) fun i ds d hn hr ⟨ws, n, u, q, b, h, ha, e1, e2⟩ => by
      subst e1 e2
      obtain ⟨w, hw, rfl⟩ := ha.clm
      refine ws_set (i := 2) (ev_ixT (ds := [.str w, carD ws]) (ev_v 0) ev_int) ?_ hn
      refine ws_ifr (k := false) (evt_is (evt_in sq_t rfl (kin_strs rfl) (ev_v 2) (ev_tup (evd_cons ev_str (evd_cons ev_str (evd_cons ev_str (evd_cons ev_str evd_nil)))))) ?_) (fun z => by cases z) fun _ => ?_
      · rcases hw with rfl | rfl <;> decide
      refine ws_ifr (k := false) (evt_is (evt_in sq_t rfl (kin_strs rfl) (ev_v 2) (ev_tup (evd_cons ev_str (evd_cons ev_str evd_nil)))) ?_) (fun z => by cases z) fun _ => ?_
      · rcases hw with rfl | rfl <;> decide
      refine ws_ifr (k := false) (evt_is (evt_in sq_t rfl (kin_strs rfl) (ev_v 2) (ev_tup (evd_cons ev_str (evd_cons ev_str evd_nil)))) ?_) (fun z => by cases z) fun _ => ?_
      · rcases hw with rfl | rfl <;> decide
      refine ws_ifr (k := false) (evt_is (evt_in sq_t rfl (kin_strs rfl) (ev_v 2) (ev_tup (evd_cons ev_str (evd_cons ev_str evd_nil)))) ?_) (fun z => by cases z) fun _ => ?_
      · rcases hw with rfl | rfl <;> decide
      refine ws_ret (μ' := []) (ev_if (k := true) (evt_is (evt_in sq_t rfl (kin_strs rfl) (ev_v 2) (ev_tup (evd_cons ev_str (evd_cons ev_str evd_nil)))) ?_) (fun _ => ?_) fun z => by cases z) (.inl rfl)
      · rcases hw with rfl | rfl <;> decide
      · exact ev_call (d_shows c) hr (evd_cons (ev_v 0) (evd_cons (ev_v 1) evd_nil)) ⟨ws, n, _, q, b, h, ha, rfl, rfl⟩
theorem fo_accepts (c : Gd G) (f : Addr) (fd : FuncData) (F : FunD G.K "accepts" "accepts" (defArgs (topS 168)) (defBody (topS 168)) (defScope (topS 168)) [] [] f fd) : FnOk G.P G.w G.K G.mg G.base CX0 10 f fd ["claim", "paper"] (spD G.K spAsk) :=
    fn_dat F (N := ["claim", "paper", "found"]) (fnsc (by kernel_rfl)) (fun ds d ⟨_, _, _, _, _, _, _, e, _⟩ => by rw [e]; rfl) fun i ds d hn hr ⟨ws, n, u, q, b, h, ha, e1, e2⟩ => by
      subst e1 e2
      obtain ⟨w, hw, rfl⟩ := ha.clm
      refine ws_ifr (k := false) (evt_not (k := true) (evt_val (ev_call (d_isclaim c) (hr.mono (by decide)) (evd_cons (ev_v 0) evd_nil) ⟨ws, n, w, h, hw, rfl, rfl⟩))) (fun z => by cases z) fun _ => ?_
      refine ws_set (i := 2) (ev_call (d_showsof c) hr (evd_cons (ev_v 0) (evd_cons (ev_v 1) evd_nil)) ⟨ws, n, _, q, b, h, ha, rfl, rfl⟩) ?_ hn
      exact ws_ret (ev_if (k := false) (evt_isN (d := .bool b) (ev_v 2) ev_non) (fun z => by cases z) fun _ => ev_v 2) (.inl rfl)
theorem d_accepts (c : Gd G) : DefG G "accepts" 10 (spD G.K spAsk) :=
  c.df 37 (ps := ["claim", "paper"]) rfl rfl (fun _ _ _ _ _ _ us hl => match us, hl with | [_, _], _ => rfl) (fo_accepts c)
end
end Gu
end
section
set_option Elab.async false
set_option linter.all false
set_option maxRecDepth 100000
set_option maxHeartbeats 1000000
namespace Gu
open PySem PySem.Spec PyProof.Rows L2
/-! ### defs that know that no guard is up: calls, bodies -/
structure DefN (P : Program) (w : World) (K : PySem.W.Frag) (mg : Str → Option Value) (base : Heap) (x : Str) (k : Nat) (sp : Sp) : Prop where
  ex : ∃ (f : Addr) (fd : FuncData) (ps : List Str), FnG P w K mg base k f fd ps sp ∧ mg x = some (.ref f) ∧ PySem.W.keepIn K (.ref f) = true ∧ Binds K fd ps []
section
variable {X : Cx} {ρ : List Slot} {μ μ' : Mem} {e : Expr} {es : List Expr} {pos p : Pos} {d : PyData} {ds : List PyData} {k j : Nat} {x : Str}
theorem we_callG {f : Addr} {fd : FuncData} {ps : List Str} {sp : Sp} {σ : L2.St} {H : Hp} {Q : VK} (F : FnG X.prog X.w X.K X.mg X.base k f fd ps sp) (hgu : X.A.guards = some []) (hr : Room k X.A) (hg : Gl X x) (hm : X.mg x = some (.ref f)) (hk : PySem.W.keepIn X.K (.ref f) = true) (hb : Binds X.K fd ps [])
    (hdb : (x == ("__debug__" : Str)) = false) (he : starEach (e :: es) X.env = (false, eval e X.env) :: starEach es X.env) (hpl : (backTo pos (starEach es X.env)).any (·.1) = false) (h : WA X (e :: es) σ H fun vs H1 => sp vs H1 Q fun _ _ _ => False) :
    WE X (.Call (.Name x p) (e :: es) [] pos) σ H Q := fun pins s I => by
  refine wpAny_Call_Name_kw (ld_glob I hg hm ?_ hdb)
  refine PySem.W.callWith_K (h₀ := X.base) I.ok.mod.kin hk (thn (h pos pins s I) fun us t ⟨vs, H1, J, r, q⟩ => ⟨J.kIn, ?_⟩) he hpl
  have hl : (us ++ []).length = ps.length := by
    rw [List.append_nil, ← r.length]
    exact F.long _ _ _ _ q
  have bt := hb t us J.kIn hl
  rw [List.append_nil] at bt
  refine wpAny_call (codeAny_mono (F.go X.A X.stack t H1 ⟨us, []⟩ us vs Q _ hgu hr J.env0 bt r q) fun o t' z => ?_)
  cases o with
  | error e => exact False.elim z
  | ok fl => cases fl <;> first | exact J.after z | exact False.elim z
theorem ev_callVG {post : List PyData → List PyData → PyData → List PyData → Prop} {ms ms' : List PyData} (G : DefN X.prog X.w X.K X.mg X.base x k (spV X.K post)) (hgu : X.A.guards = some []) (hr : Room k X.A) (ha : Eva X ρ μ (e :: es) (.mut j :: ds.map .dat) μ') (hj : μ'[j]? = some ms) (hp : post ms ds d ms') (hg : Gl X x := by rfl) (hdb : (x == ("__debug__" : Str)) = false := by decide)
    (he : starEach (e :: es) X.env = (false, eval e X.env) :: starEach es X.env := by rfl) (hpl : (backTo pos (starEach es X.env)).any (·.1) = false := by rfl) : Ev X ρ μ (.Call (.Name x p) (e :: es) [] pos) (.dat d) (μ'.set j ms') := ⟨fun F as σ D H Q R q => by
  obtain ⟨f, fd, ps, G, hm, hk, hb⟩ := G.ex
  refine we_callG G hgu hr hg hm hk hb hdb he hpl (ha F as σ D H _ R fun vs m D1 H1 e1 R1 k1 => ?_)
  obtain ⟨v, us, rfl, ⟨a, haj, rfl⟩, k2⟩ := voks_cons k1
  obtain ⟨xs, hx, hq⟩ := R1.mem j a ms haj hj
  exact ⟨D1, a, us, xs, ms, ds, d, ms', rfl, hx, R1.out a (List.mem_of_getElem? haj), hq, R1.sub, voks_dq k2, hp, fun v D2 H2 xs' e2 e3 e4 n n2 h' hq' k3 =>
    (q.after e1).after e2 v [] D2 H2 (Same.refl _) (by rw [List.append_nil, List.append_nil]; exact R1.callV haj e2 e3 e4 n h' hq') (VOk.nil (VOk.nil k3))⟩⟩
end
section
variable {G : Gv} {x qual : Str} {params : Arguments} {body : List Stmt} {scope : Scope} {f : Addr} {fd : FuncData} {N ps : List Str} {k : Nat}
theorem fnG_vat {post : List PyData → List PyData → PyData → List PyData → Prop} (F : FunD G.K x qual params body scope [] [] f fd) (S : FnScope N ps scope) (hl : ∀ ms ds d ms', post ms ds d ms' → ds.length + 1 = ps.length)
    (hb : ∀ (i : Bi) (ms ds : List PyData) (d : PyData) (ms' : List PyData), N.Nodup → (bX G N qual scope i).A.guards = some [] → Room k (bX G N qual scope i).A → post ms ds d ms' → Ws (bX G N qual scope i) body (slots0 N (.mut 0 :: ds.map .dat)) [ms] (givesV d ms')) : FnG G.P G.w G.K G.mg G.base (k + 1) f fd ps (spV G.K post) := by
  refine fnG_of F S (fun vs H Q E ⟨D, a, vs', xs, ms, ds, d, ms', e, _, _, _, _, q, p, _⟩ => by rw [e, List.length_cons, q.len]; exact hl ms ds d ms' p) fun i vs Q hgu hr ⟨D, a, vs', xs, ms, ds, d, ms', e, ha, hd, hx, hs, q, p, fin⟩ => ?_
  subst e
  have R := rel_start (K := G.K) (N := N) (ss := .mut 0 :: ds.map .dat) (vs := .ref a :: vs') (μ := [ms]) (as := [a]) hs ⟨⟨a, rfl, rfl⟩, voks_of q⟩ rfl (fun j b es h h2 => by
    cases j with
    | zero =>
      cases h
      cases h2
      exact ⟨xs, ha, hx⟩
    | succ j => simp at h) (by simp) (fun b h => by
    rw [List.mem_singleton] at h
    subst h
    exact hd)
  refine WB.mono (hb i ms ds d ms' S.nd hgu hr p _ [a] _ D i.H R) ?_ ?_ (fun _ _ h => h) fun _ _ h => h
  · rintro σ H' ⟨ρ, μ, as, D', hp, r⟩
    exact False.elim hp
  · rintro v H' ⟨z, ρ, μ, as, σ, D', hp, r, kv⟩
    have hd : z = .dat d ∧ μ[0]? = some ms' := hp
    obtain ⟨rfl, h0⟩ := hd
    obtain ⟨l, rfl⟩ := r.grown
    obtain ⟨xs', h1, h2⟩ := r.mem 0 a ms' rfl h0
    exact fin v D' H' xs' r.sd r.sub (fun b o hb h => r.frame b o h (by simpa [Fr0.here] using hb)) r.new (r.out a (by simp)) h1 h2 kv
theorem fnG_scr {post : List Int → List PyData → PyData → Prop} (F : FunD G.K x qual params body scope [] [] f fd) (S : FnScope N ps scope) (hl : ∀ ns ds d, post ns ds d → ds.length + 1 = ps.length)
    (hb : ∀ (i : Bi) (ns : List Int) (ds : List PyData) (d : PyData), N.Nodup → (bX G N qual scope i).A.guards = some [] → Room k (bX G N qual scope i).A → post ns ds d → Ws (bX G N qual scope i) body (slots0 N (.scr ns :: ds.map .dat)) [] (gives d)) : FnG G.P G.w G.K G.mg G.base (k + 1) f fd ps (spS G.K post) := by
  refine fnG_of F S (fun vs H Q E ⟨D, a, vs', ns, ds, d, e, _, _, q, p, _⟩ => by rw [e, List.length_cons, q.len]; exact hl ns ds d p) fun i vs Q hgu hr ⟨D, a, vs', ns, ds, d, e, hq, hs, q, p, fin⟩ => ?_
  subst e
  have R := rel_start (K := G.K) (N := N) (ss := .scr ns :: ds.map .dat) (vs := .ref a :: vs') (μ := []) (as := []) hs ⟨⟨a, rfl, hq⟩, voks_of q⟩ rfl (fun j a ds h => by simp at h) List.nodup_nil (fun a h => by cases h)
  refine WB.mono (hb i ns ds d S.nd hgu hr p _ [] _ D i.H R) ?_ ?_ (fun _ _ h => h) fun _ _ h => h
  · rintro σ H' ⟨ρ, μ, as, D', hp, r⟩
    have hd : d = .none := hp
    subst hd
    exact fin _ D' H' r.sd r.sub (fun b o h => r.frame b o h (by simp [Fr0.here])) r.new .non
  · rintro v H' ⟨z, ρ, μ, as, σ, D', hp, r, kv⟩
    have hd : z = .dat d := hp
    subst hd
    exact fin v D' H' r.sd r.sub (fun b o h => r.frame b o h (by simp [Fr0.here])) r.new kv
end
section
variable {G : Gv}
abbrev DefNG (G : Gv) (x : Str) (k : Nat) (sp : Sp) : Prop := DefN G.P G.w G.K G.mg G.base x k sp
theorem Gd.dn (c : Gd G) (i : Nat) {x : Str} {p k : Nat} {ps : List Str} {sp : Sp} (h : fnA[i]? = some (dd x p)) (hg : fgA[i]? = some (.glo x))
    (hb : ∀ (kV doc pm : Value) (an : Option Addr) (cdv ct : Value) (us : List Value), us.length = ps.length → bindArgs (PySem.W.fnOf x x (defArgs (topS p)) (defBody (topS p)) (defScope (topS p)) .none kV doc pm an cdv ct) ⟨us, []⟩ = pure (ps.zip us))
    (F : ∀ (f : Addr) (fd : FuncData), FunD G.K x x (defArgs (topS p)) (defBody (topS p)) (defScope (topS p)) [] [] f fd → FnG G.P G.w G.K G.mg G.base k f fd ps sp) : DefNG G x k sp := by
  obtain ⟨fd, f⟩ := c.c.def_ i h
  have hm := c.glo i hg
  exact ⟨_, fd, ps, F _ fd f, hm, f.kp, FunD.bindsN f hb⟩
theorem fund_kw {K : PySem.W.Frag} {x qual : Str} {params : Arguments} {body : List Stmt} {scope : Scope} {f : Addr} {fd : FuncData} {ps : List Str} (F : FunD K x qual params body scope [] [] f fd)
    (h : ∀ (kV doc pm : Value) (an : Option Addr) (cdv ct : Value) (us : List Value), us.length = ps.length → bindArgs (PySem.W.fnOf x qual params body scope .none kV doc pm an cdv ct) ⟨[], ps.zip us⟩ = pure (ps.zip us)) (s : Shared) (us : List Value) (hl : us.length = ps.length) : BindsTo s fd ⟨[], ps.zip us⟩ (ps.zip us) := by
  obtain ⟨_, _, _, kV, doc, pm, an, cdv, ct, _, rfl, _, _, hD, _⟩ := F.ex
  rcases hD with ⟨_, rfl⟩ | ⟨z, _⟩
  · exact .of_eq (h kV doc pm an cdv ct us hl)
  · exact absurd rfl z
theorem Gd.dk (c : Gd G) (i : Nat) {x : Str} {p k : Nat} {ps : List Str} {sp : Sp} (h : fnA[i]? = some (dd x p)) (hg : fgA[i]? = some (.glo x))
    (hb : ∀ (kV doc pm : Value) (an : Option Addr) (cdv ct : Value) (us : List Value), us.length = ps.length → bindArgs (PySem.W.fnOf x x (defArgs (topS p)) (defBody (topS p)) (defScope (topS p)) .none kV doc pm an cdv ct) ⟨[], ps.zip us⟩ = pure (ps.zip us))
    (F : ∀ (f : Addr) (fd : FuncData), FunD G.K x x (defArgs (topS p)) (defBody (topS p)) (defScope (topS p)) [] [] f fd → FnOk G.P G.w G.K G.mg G.base CX0 k f fd ps sp) : DefK G.P G.w G.K G.mg G.base x k ps sp := by
  obtain ⟨fd, f⟩ := c.c.def_ i h
  exact ⟨_, fd, F _ fd f, c.glo i hg, f.kp, fun s us hl => fund_kw f hb s us hl⟩
end
end Gu
end
section
set_option Elab.async false
set_option linter.all false
set_option maxRecDepth 100000
set_option maxHeartbeats 1000000
set_option exponentiation.threshold 20000
namespace Gu
open PySem PySem.Spec PyProof.Rows L2
/-! ### repr of long data -/
section
variable {X : Cx} {ρ : List Slot} {μ μ1 : Mem} {a : Expr} {pos p : Pos} {d : PyData}
theorem cr_reprW (hg : X.A.guards = some []) (hu : X.A.units + 100 < cLine) : CallR X (.builtin "repr") (fun xs H Q => ∃ v d, xs = [v] ∧ Dq X.K H v d ∧ kindR d = true ∧ d.showable = true ∧ d.depth ≤ 64 ∧ d.shown.length ≤ sizeLine ∧ Q (.str d.shown) H) := by
  intro pins s σ H xs us Q I r h
  obtain ⟨v, d, rfl, hd, hk, hs, hp, hz, q⟩ := h
  have e0 : ∃ u, us = [u] ∧ RelV v u := by
    cases r with
    | cons r rr =>
      cases rr
      exact ⟨_, rfl, r⟩
  obtain ⟨u, rfl, rv⟩ := e0
  obtain ⟨as, rd⟩ := Dp.reads I d v u (Dq.dp d v hd) rv
  have nd := dq_nodict d v hd
  have fin : ∀ a, u = .ref a → wpAny (model X.prog X.w) X.A (call (.builtin "repr") [u]) (EP X pins σ Q) X.xe s := fun a e => by
    subst e
    exact PySem.repr_of_reads' rd hs (fun z => by rw [nd] at z; cases z) hg (by omega) (fun _ _ e => e) (fun h' u tk hk2 => ⟨.str d.shown, H, I.kept (t' := tk) hk2, ⟨u, rfl⟩, q⟩) hz
  cases hd with
  | bl b =>
    cases rv
    exact PySem.P.repr_of_bool ⟨.str _, H, I.tok _, ⟨_, rfl⟩, q⟩
  | lst h1 h2 => exact fin _ rv
  | tup h1 h2 => exact fin _ rv
  | non => cases hk
  | int _ => cases hk
  | str _ => cases hk
/-- what repr wants of data -/
structure Rp (d : PyData) (W D : Nat) : Prop where
  sh : d.showable = true
  ls : d.leavesShort 301 = true
  we : d.weight ≤ W
  dp : d.depth ≤ D
structure RpL (ds : List PyData) (W D : Nat) : Prop where
  sh : PyData.showableAll ds = true
  ls : PyData.leavesShortAll 301 ds = true
  we : PyData.weightAll ds ≤ W
  dp : PyData.depthAll ds ≤ D
theorem Rp.up {d : PyData} {W D W' D' : Nat} (h : Rp d W D) (h1 : W ≤ W') (h2 : D ≤ D') : Rp d W' D' := ⟨h.sh, h.ls, Nat.le_trans h.we h1, Nat.le_trans h.dp h2⟩
theorem rpl_nil {W D : Nat} : RpL [] W D := ⟨by simp [PyData.showableAll], by simp [PyData.leavesShortAll], by simp [PyData.weightAll], by simp [PyData.depthAll]⟩
theorem rpl_cons {d : PyData} {ds : List PyData} {W V D : Nat} (h : Rp d W D) (k : RpL ds V D) : RpL (d :: ds) (W + 1 + V) D :=
  ⟨by simp only [PyData.showableAll, h.sh, k.sh, Bool.and_self], by simp only [PyData.leavesShortAll, h.ls, k.ls, Bool.and_self],
    by have := h.we; have := k.we; simp only [PyData.weightAll]; omega, by have := h.dp; have := k.dp; simp only [PyData.depthAll]; omega⟩
theorem rpl_map {α : Type} {f : α → PyData} {W D : Nat} : ∀ {l : List α}, (∀ u ∈ l, Rp (f u) W D) → RpL (l.map f) ((W + 1) * l.length) D
  | [], _ => rpl_nil
  | u :: l, h => by
    have z := rpl_cons (h u List.mem_cons_self) (rpl_map fun v hv => h v (List.mem_cons_of_mem _ hv))
    rw [List.map_cons, List.length_cons, Nat.mul_succ, Nat.add_comm]
    exact z
theorem rp_list {ds : List PyData} {W D : Nat} (h : RpL ds W D) : Rp (.list ds) W (D + 1) :=
  ⟨by simp only [PyData.showable, h.sh], by simp only [PyData.leavesShort, h.ls], by simp only [PyData.weight]; exact h.we, by have := h.dp; simp only [PyData.depth]; omega⟩
theorem rp_tuple {ds : List PyData} {W D : Nat} (h : RpL ds W D) : Rp (.tuple ds) W (D + 1) :=
  ⟨by simp only [PyData.showable, h.sh], by simp only [PyData.leavesShort, h.ls], by simp only [PyData.weight]; exact h.we, by have := h.dp; simp only [PyData.depth]; omega⟩
theorem log_lt {n k : Nat} (hk : 0 < k) (h : n < 2 ^ k) : n.log2 < k := by
  by_cases h0 : n = 0
  · subst h0
    exact hk
  · exact (Nat.log2_lt h0).mpr h
theorem rp_int {i : Int} {D : Nat} (h : i.natAbs < 2 ^ 300) : Rp (.int i) 300 D := by
  have l := log_lt (by decide) h
  refine ⟨by simp only [PyData.showable]; exact decide_eq_true (by omega), ?_, ?_, by simp [PyData.depth]⟩
  · simp only [PyData.leavesShort, PyData.shown]
    refine decide_eq_true ?_
    show (Str.ofString (toString i)).length ≤ 301
    rw [PySem.ofString_length]
    exact PySem.int_text_length_le (by decide) l
  · simp only [PyData.weight]
    split <;> omega
theorem rp_none {D : Nat} : Rp .none 0 D := ⟨by simp [PyData.showable], by simp [PyData.leavesShort], by simp [PyData.weight], by simp [PyData.depth]⟩
theorem rp_bool {b : Bool} {D : Nat} : Rp (.bool b) 0 D := ⟨by simp [PyData.showable], by simp [PyData.leavesShort], by simp [PyData.weight], by simp [PyData.depth]⟩
theorem rp_pp {p : Int × Int} {D : Nat} (h : Szp 300 p) : Rp (pp p) 602 (D + 1) := rp_tuple (rpl_cons (rp_int h.2.1) (rpl_cons (rp_int h.2.2) rpl_nil (V := 0)))
theorem Rp.small {d : PyData} {W D : Nat} (h : Rp d W D) (hW : W ≤ 50000) : d.shown.length ≤ sizeLine := by
  have z := PyData.shown_le 301 (by decide) d h.ls
  have y : 303 * d.weight ≤ 303 * 50000 := Nat.mul_le_mul_left _ (Nat.le_trans h.we hW)
  have x : sizeLine = 2 ^ 24 := rfl
  omega
theorem ev_reprW {W D : Nat} (hgu : X.A.guards = some []) (hu : X.A.units + 100 < cLine) (hm : X.mg "repr" = none) (h : Rp d W D) (hk : kindR d = true) (hW : W ≤ 50000) (hD : D ≤ 64) (ha : Ev X ρ μ a (.dat d) μ1) (hg : Gl X "repr" := by rfl) (hse : starEach [a] X.env = (false, eval a X.env) :: starEach [] X.env := by rfl) :
    Ev X ρ μ (.Call (.Name "repr" p) [a] [] pos) (.dat (.str d.shown)) μ1 :=
  ev_callB (cr_reprW hgu hu) hm boot_repr0 (eva_cons ha eva_nil hse) (fun F as σ D H Q xs R k q => by
    obtain ⟨v, rfl, kv⟩ := voks1 k
    exact ⟨v, d, rfl, Dq.mono' R.sub kv, hk, h.sh, Nat.le_trans h.dp hD, h.small hW, q.now R (.str _)⟩) (hg := hg) (he := hse)
end
theorem rp_car {ws : List (Int × Int)} {n : Nat} (h : Car ws n) {D : Nat} : Rp (carD ws) 9648 (D + 2) := by
  have z : RpL (ws.map pp) ((602 + 1) * ws.length) (D + 1) := rpl_map fun p hp => rp_pp (by
    have s := (h.amt p hp).2.2
    exact ⟨s.1, Nat.lt_of_lt_of_le s.2.1 (Nat.pow_le_pow_right (by decide) (by decide)), Nat.lt_of_lt_of_le s.2.2 (Nat.pow_le_pow_right (by decide) (by decide))⟩)
  exact (rp_tuple z).up (by have := h.len16; omega) (Nat.le_refl _)
theorem rp_nat {k D : Nat} (h : k < 2 ^ 300) : Rp (natD k) 300 D := rp_int (by rw [Int.natAbs_natCast]; exact h)
theorem rp_pap {ss : List (Int × Int)} {i j D : Nat} (hl : ss.length ≤ 4) (hs : ∀ t ∈ ss, Szp 300 t) (hi : i < 2 ^ 300) (hj : j < 2 ^ 300) : Rp (papD ss i j) 3100 (D + 3) := by
  have z : RpL (ss.map pp) ((602 + 1) * ss.length) (D + 1) := rpl_map fun p hp => rp_pp (hs p hp)
  exact (rp_tuple (rpl_cons (rp_tuple z) (rpl_cons (rp_nat hi) (rpl_cons (rp_nat hj) rpl_nil (V := 0))))).up (by omega) (Nat.le_refl _)
end Gu
end
section
set_option Elab.async false
set_option linter.all false
set_option maxRecDepth 100000
set_option maxHeartbeats 4000000
set_option exponentiation.threshold 20000
namespace Gu
open PySem PySem.Spec PyProof.Rows L2
def spGcd (ds : List PyData) (d : PyData) : Prop := ∃ a b : Int, ds = [.int a, .int b] ∧ d = .int (gc a b)
def spPower (ds : List PyData) (d : PyData) : Prop := ∃ (a : Int) (k : Nat), a.natAbs < 2 ^ 4 ∧ k ≤ 600 ∧ ds = [.int a, natD k] ∧ d = .int (a ^ k)
def spScaled (ds : List PyData) (d : PyData) : Prop := ∃ ws n, Car ws n ∧ ds = [carD ws] ∧ d = .list (((List.range ws.length).map (whole ws)).map PyData.int)
def intsD (xs : List Int) : PyData := .list (xs.map PyData.int)
def spLShare (ds : List PyData) (d : PyData) : Prop := ∃ (xs : List Int) (ks : List Nat), 0 < xs.sum ∧ mid xs.sum ∧ xs.length ≤ 100 ∧ (∀ k ∈ ks, k < xs.length) ∧ ks.length ≤ 100 ∧ ds = [intsD xs, .list (ks.map natD)] ∧ d = pp (nrm (chosen xs ks) xs.sum)
def spSeated (ds : List PyData) (d : PyData) : Prop := ∃ (xs : List Int) (i : Nat), 0 < xs.sum ∧ mid xs.sum ∧ xs.length ≤ 100 ∧ i ≤ 100 ∧ ds = [intsD xs, natD i] ∧ d = pp (shareQ xs [i])
def spBoth (ds : List PyData) (d : PyData) : Prop := ∃ (xs : List Int) (i j : Nat), 0 < xs.sum ∧ mid xs.sum ∧ xs.length ≤ 100 ∧ i ≤ 100 ∧ j ≤ 100 ∧ ds = [intsD xs, natD i, natD j] ∧ d = pp (shareQ xs [i, j])
def spLPull (ds : List PyData) (d : PyData) : Prop := ∃ (xs : List Int) (i j : Nat), 0 < xs.sum ∧ xs.length ≤ 16 ∧ (∀ x ∈ xs, x.natAbs < 2 ^ 1881) ∧ i ≤ 100 ∧ j ≤ 100 ∧ ds = [intsD xs, natD i, natD j] ∧ d = pp (pullQ xs i j)
theorem bits1 (n i : Nat) : bitsF n [i] = (List.range n).filter fun s => s.testBit i := by
  unfold bitsF
  simp
theorem bits2 (n i j : Nat) : bitsF n [i, j] = (List.range n).filter fun s => s.testBit i && s.testBit j := by
  unfold bitsF
  simp
theorem ev_shlN {X : Cx} {ρ : List Slot} {μ μ1 μ2 : Mem} {a b : Expr} {pos : Pos} {k : Nat} (hk : k ≤ 1000) (ha : Ev X ρ μ a (.dat (.int 1)) μ1) (hb : Ev X ρ μ1 b (.dat (natD k)) μ2) : Ev X ρ μ (.BinOp a .LShift b pos) (.dat (natD (2 ^ k))) μ2 := by
  have z := ev_shl (pos := pos) (i := 1) (j := (k : Nat)) ⟨by omega, by omega, by decide⟩ ha hb
  refine ev_is z ?_
  rw [Int.toNat_natCast, Int.one_mul]
  unfold natD
  rw [Int.natCast_pow]
  rfl
section
variable {G : Gv}
theorem d_lhas (c : Gd G) : DefG G "_law_has" 1 (spD G.K spHas) :=
  c.df 50 (ps := ["_law_standing", "_law_seat"]) rfl rfl (fun _ _ _ _ _ _ us hl => match us, hl with | [_, _], _ => rfl) fun f fd F =>
    fn_dat F (N := ["_law_standing", "_law_seat"]) (fnsc (by kernel_rfl)) (fun ds d ⟨_, _, _, e, _⟩ => by rw [e]; rfl) fun i ds d hn hr ⟨s, k, hk, e1, e2⟩ => by
      subst e1 e2
      refine ws_ret (ev_eq (ev_mod (by decide) (ev_intC (c.fr 77) (ev_shr (i := (s : Nat)) (j := (k : Nat)) (by omega) (ev_v 0) (ev_v 1))) ev_int) ev_int) (.inl ?_)
      have e : ((s : Nat) : Int) / 2 ^ ((k : Nat) : Int).toNat = ((s / 2 ^ k : Nat) : Int) := by
        rw [Int.toNat_natCast]
        simp
      rw [e, tb_int]
theorem d_lcommon (c : Gd G) : DefG G "_law_common" 1 (spD G.K spGcd) :=
  c.df 41 (ps := ["_law_one", "_law_two"]) rfl rfl (fun _ _ _ _ _ _ us hl => match us, hl with | [_, _], _ => rfl) fun f fd F =>
    fn_dat F (N := ["_law_one", "_law_two"]) (fnsc (by kernel_rfl)) (fun ds d ⟨_, _, e, _⟩ => by rw [e]; rfl) fun i ds d hn hr ⟨a, b, e1, e2⟩ => by
      subst e1 e2
      refine ws_par (i := 0) (j := 1) (eva_cons (ev_abs (c.fr 87) (ev_v 0)) (eva_cons (ev_abs (c.fr 87) (ev_v 1)) eva_nil)) ?_ rfl hn
      refine ws_while (n := b.natAbs) (I := fun m ρ μ => ∃ x : Nat, Nat.gcd x m = Nat.gcd a.natAbs b.natAbs ∧ μ = [] ∧ ρ = [.dat (natD x), .dat (natD m)]) bX_own ⟨a.natAbs, rfl, rfl, rfl⟩ ?_
      rintro m ρ μ ⟨x, hx, rfl, rfl⟩
      refine ⟨decide ((0 : Int) < (m : Nat)), [], evt_gt (ev_v 1) ev_int, fun hk => ?_, fun hk => ?_⟩
      · have m0 : 0 < m := by
          have := of_decide_eq_true hk
          omega
        refine ws_par (i := 0) (j := 1) (eva_cons (ev_v 1) (eva_cons (ev_mod (i := (x : Nat)) (j := (m : Nat)) (by omega) (ev_intC (c.fr 77) (ev_v 0)) (ev_v 1)) eva_nil)) (ws_nil ⟨x % m, Nat.mod_lt _ m0, m, ?_, rfl, ?_⟩) rfl hn
        · rw [← hx, Nat.gcd_comm m, Nat.gcd_comm x, ← Nat.gcd_rec]
        · have e : ((x : Nat) : Int) % ((m : Nat) : Int) = ((x % m : Nat) : Int) := by simp
          rw [e]
          rfl
      · have m0 : m = 0 := by
          have := of_decide_eq_false hk
          omega
        subst m0
        refine ws_ret (ev_v 0) (.inl ?_)
        rw [Nat.gcd_zero_right] at hx
        rw [hx]
        rfl
theorem d_llow (c : Gd G) : DefG G "_law_low" 2 (spD G.K spRatio) :=
  c.df 42 (ps := ["_law_top", "_law_under_here"]) rfl rfl (fun _ _ _ _ _ _ us hl => match us, hl with | [_, _], _ => rfl) fun f fd F =>
    fn_dat F (N := ["_law_top", "_law_under_here", "_law_deep"]) (fnsc (by kernel_rfl)) (fun ds d ⟨_, _, _, _, e, _⟩ => by rw [e]; rfl) fun i ds d hn hr ⟨a, b, hb, hm, e1, e2⟩ => by
      subst e1 e2
      refine ws_set (i := 2) (ev_call (d_lcommon c) hr (evd_cons (ev_v 0) (evd_cons (ev_v 1) evd_nil)) ⟨a, b, rfl, rfl⟩) ?_ hn
      exact ws_ret (μ' := []) (ev_if (k := true) (evt_is (evt_gt (ev_v 1) ev_int) (decide_eq_true hb)) (fun _ => ev_tup (evd_cons (ev_fdiv (gc_w hb hm) (ev_v 0) (ev_v 2)) (evd_cons (ev_fdiv (gc_w hb hm) (ev_v 1) (ev_v 2)) evd_nil))) fun z => by cases z) (.inl rfl)
theorem d_ltake (c : Gd G) : DefG G "_law_take" 3 (spD G.K (sp2 fun a b => pp (minusP a b))) :=
  c.df 43 (ps := ["_law_one", "_law_two"]) rfl rfl (fun _ _ _ _ _ _ us hl => match us, hl with | [_, _], _ => rfl) fun f fd F =>
    fn_dat F (N := ["_law_one", "_law_two"]) (fnsc (by kernel_rfl)) (fun ds d ⟨a, b, _, _, e, _⟩ => by rw [e]; rfl) fun i ds d hn hr ⟨a, b, ha, hb, e1, e2⟩ => by
      subst e1 e2
      exact ws_ret (ev_call (d_llow c) hr (evd_cons (ev_sub (ev_mul (ha.2.1.mul hb.2.2) (ev_ixT (ev_v 0) ev_int) (ev_ixT (ev_v 1) ev_int)) (ev_mul (hb.2.1.mul ha.2.2) (ev_ixT (ev_v 1) ev_int) (ev_ixT (ev_v 0) ev_int)))
        (evd_cons (ev_mul (ha.2.2.mul hb.2.2) (ev_ixT (ev_v 0) ev_int) (ev_ixT (ev_v 1) ev_int)) evd_nil)) ⟨_, _, Int.mul_pos ha.1 hb.1, ha.2.2.mid hb.2.2, rfl, rfl⟩) (.inl rfl)
theorem d_lmul (c : Gd G) : DefG G "_law_mul" 3 (spD G.K (sp2 fun a b => pp (timesP a b))) :=
  c.df 44 (ps := ["_law_one", "_law_two"]) rfl rfl (fun _ _ _ _ _ _ us hl => match us, hl with | [_, _], _ => rfl) fun f fd F =>
    fn_dat F (N := ["_law_one", "_law_two"]) (fnsc (by kernel_rfl)) (fun ds d ⟨a, b, _, _, e, _⟩ => by rw [e]; rfl) fun i ds d hn hr ⟨a, b, ha, hb, e1, e2⟩ => by
      subst e1 e2
      exact ws_ret (ev_call (d_llow c) hr (evd_cons (ev_mul (ha.2.1.mul hb.2.1) (ev_ixT (ev_v 0) ev_int) (ev_ixT (ev_v 1) ev_int))
        (evd_cons (ev_mul (ha.2.2.mul hb.2.2) (ev_ixT (ev_v 0) ev_int) (ev_ixT (ev_v 1) ev_int)) evd_nil)) ⟨_, _, Int.mul_pos ha.1 hb.1, ha.2.2.mid hb.2.2, rfl, rfl⟩) (.inl rfl)
theorem d_lover (c : Gd G) : DefG G "_law_over" 3 (spD G.K spOver) :=
  c.df 45 (ps := ["_law_one", "_law_two"]) rfl rfl (fun _ _ _ _ _ _ us hl => match us, hl with | [_, _], _ => rfl) fun f fd F =>
    fn_dat F (N := ["_law_one", "_law_two"]) (fnsc (by kernel_rfl)) (fun ds d ⟨a, b, _, _, _, e, _⟩ => by rw [e]; rfl) fun i ds d hn hr ⟨a, b, ha, hb, h0, e1, e2⟩ => by
      subst e1 e2
      exact ws_ret (ev_call (d_llow c) hr (evd_cons (ev_mul (ha.2.1.mul hb.2.2) (ev_ixT (ev_v 0) ev_int) (ev_ixT (ev_v 1) ev_int))
        (evd_cons (ev_mul (ha.2.2.mul hb.2.1) (ev_ixT (ev_v 0) ev_int) (ev_ixT (ev_v 1) ev_int)) evd_nil)) ⟨_, _, Int.mul_pos ha.1 h0, ha.2.2.mid hb.2.1, rfl, rfl⟩) (.inl rfl)
theorem d_lunder (c : Gd G) : DefG G "_law_under" 1 (spD G.K (sp2 fun a b => .bool (belowP a b))) :=
  c.df 46 (ps := ["_law_one", "_law_two"]) rfl rfl (fun _ _ _ _ _ _ us hl => match us, hl with | [_, _], _ => rfl) fun f fd F =>
    fn_dat F (N := ["_law_one", "_law_two"]) (fnsc (by kernel_rfl)) (fun ds d ⟨a, b, _, _, e, _⟩ => by rw [e]; rfl) fun i ds d hn hr ⟨a, b, ha, hb, e1, e2⟩ => by
      subst e1 e2
      exact ws_ret (ev_lt (ev_mul (ha.2.1.mul hb.2.2) (ev_ixT (ev_v 0) ev_int) (ev_ixT (ev_v 1) ev_int)) (ev_mul (hb.2.1.mul ha.2.2) (ev_ixT (ev_v 1) ev_int) (ev_ixT (ev_v 0) ev_int))) (.inl rfl)
theorem pow_lt {a : Int} (h : a.natAbs < 2 ^ 4) (i : Nat) : (a ^ i).natAbs < 2 ^ (4 * i + 1) := by
  rw [Int.natAbs_pow]
  have z := Nat.pow_le_pow_left (Nat.le_of_lt h) i
  rw [← Nat.pow_mul] at z
  exact Nat.lt_of_le_of_lt z (Nat.pow_lt_pow_right (by decide) (by omega))
theorem d_lpower (c : Gd G) : DefG G "_law_power" 1 (spD G.K spPower) :=
  c.df 47 (ps := ["_law_base", "_law_many"]) rfl rfl (fun _ _ _ _ _ _ us hl => match us, hl with | [_, _], _ => rfl) fun f fd F =>
    fn_dat F (N := ["_law_base", "_law_many", "_law_found", "_law_lap"]) (fnsc (by kernel_rfl)) (fun ds d ⟨_, _, _, _, e, _⟩ => by rw [e]; rfl) fun i ds d hn hr ⟨a, k, ha, hk, e1, e2⟩ => by
      subst e1 e2
      refine ws_set (i := 2) ev_int ?_ hn
      refine ws_forN (I := fun i ρ μ => ∃ z, i ≤ k ∧ μ = [] ∧ ρ = [.dat (.int a), .dat (natD k), .dat (.int (a ^ i)), z]) 3 bX_own rfl hn (evi_n1 (n := k) (c.fr 83) (by omega) (ev_v 1)) ⟨.un, Nat.zero_le _, rfl, by rw [Int.pow_zero]; rfl⟩ ?_ ?_
      · rintro i d ρ μ hd ⟨z, hi, rfl, rfl⟩
        obtain ⟨u, hu, rfl⟩ := map_inv hd
        obtain ⟨rfl, hi2⟩ := range_inv hu
        refine ws_set (i := 2) (ev_mul (mulx_ok (pow_lt ha u) ha (by omega)) (ev_v 2) (ev_v 0)) (ws_nil ⟨.dat (natD u), hi2, rfl, ?_⟩) hn
        rw [← Int.pow_succ]
        rfl
      · rintro ρ μ ⟨z, _, rfl, rfl⟩
        rw [List.length_map, List.length_range]
        exact ws_ret (ev_v 2) (.inl rfl)
theorem d_lcount (c : Gd G) : DefG G "_law_count_seats" 1 (spD G.K spSeats) :=
  c.df 51 (ps := ["_law_weights"]) rfl rfl (fun _ _ _ _ _ _ us hl => match us, hl with | [_], _ => rfl) fun f fd F =>
    fn_dat F (N := ["_law_weights"]) (fnsc (by kernel_rfl)) (fun ds d ⟨_, _, _, e, _⟩ => by rw [e]; rfl) fun i ds d hn hr ⟨ws, n, h, e1, e2⟩ => by
      subst e1 e2
      obtain ⟨m1, m2⟩ := idx_sizes h
      refine ws_ret (ev_add (ev_lindex (ns := [2, 4, 8, 16, 32]) (ev_lst (evd_cons ev_int (evd_cons ev_int (evd_cons ev_int (evd_cons ev_int (evd_cons ev_int evd_nil)))))) (ev_len sq_t (c.fr 80) (ev_v 0)) m1) ev_int) (.inl ?_)
      rw [m2]
theorem d_lscaled (c : Gd G) : DefG G "_law_scaled_up" 2 (spD G.K spScaled) :=
  c.df 57 (ps := ["_law_weights"]) rfl rfl (fun _ _ _ _ _ _ us hl => match us, hl with | [_], _ => rfl) fun f fd F =>
    fn_dat F (N := ["_law_weights", "_law_low_here", "_law_each"]) (fnsc (by kernel_rfl)) (fun ds d ⟨_, _, _, e, _⟩ => by rw [e]; rfl) fun i ds d hn hr ⟨ws, n, h, e1, e2⟩ => by
      subst e1 e2
      have l16 := h.len16
      refine ws_set (i := 1) ev_int ?_ hn
      refine ws_forN (I := fun i ρ μ => ∃ z, μ = [] ∧ ρ = [.dat (carD ws), .dat (.int ((ws.take i).foldl (fun l w => lcmS l w.2) 1)), z]) 2 bX_own rfl hn (evi_t (ev_v 0)) ⟨.un, rfl, rfl⟩ ?_ ?_
      · rintro i d ρ μ hd ⟨z, rfl, rfl⟩
        obtain ⟨w, hw, rfl⟩ := map_inv hd
        have hwm := List.mem_of_getElem? hw
        have aw := h.amt w hwm
        obtain ⟨f1, _, _, f4⟩ := foldL_ok (ws := ws.take i) (fun p hp => h.amt p (List.mem_of_mem_take hp)) (l := 1) (B := 1) (by decide) (by decide)
        have f5 : ((ws.take i).foldl (fun l w => lcmS l w.2) 1).natAbs < 2 ^ 700 := Nat.lt_of_lt_of_le f4 (Nat.pow_le_pow_right (by decide) (by have : (ws.take i).length ≤ ws.length := by rw [List.length_take]; exact Nat.min_le_right _ _
                                                                                                                                                omega))
        refine ws_set (i := 1) (ev_fdiv (j := gc ((ws.take i).foldl (fun l w => lcmS l w.2) 1) w.2) ?_ (ev_mul (mulx_ok f5 aw.2.2.2.2 (by decide)) (ev_v 1) (ev_ixT (ds := [.int w.1, .int w.2]) (ev_v 2) ev_int)) (ev_call (d_lcommon c) (hr.mono (by decide)) (evd_cons (ev_v 1) (evd_cons (ev_ixT (ds := [.int w.1, .int w.2]) (ev_v 2) ev_int) evd_nil)) ⟨_, w.2, rfl, rfl⟩)) (ws_nil ⟨.dat (pp w), rfl, ?_⟩) hn
        · exact gc_w aw.2.2.1 (Nat.lt_of_lt_of_le aw.2.2.2.2 (Nat.pow_le_pow_right (by decide) (by decide)))
        · rw [List.take_add_one, hw, List.foldl_append]
          rfl
      · rintro ρ μ ⟨z, rfl, rfl⟩
        rw [List.length_map, List.take_length]
        have e3 : ((List.range ws.length).map (whole ws)).map PyData.int = ws.map fun w => PyData.int (w.1 * (lawL ws / w.2)) := by
          rw [List.map_map]
          refine List.ext_getElem? fun i => ?_
          rw [List.getElem?_map, List.getElem?_map]
          by_cases hi : i < ws.length
          · rw [List.getElem?_range hi, at1_some hi]
            rfl
          · rw [List.getElem?_eq_none (by rw [List.length_range]; omega), List.getElem?_eq_none (by omega)]
            rfl
        rw [e3]
        obtain ⟨g1, g2, g3⟩ := lawL_ok h.amt l16.2
        refine ws_ret (μ' := []) (ev_lcMap (l := ws) (g := pp) (f := fun w => PyData.int (w.1 * (lawL ws / w.2))) (j := 2) rfl hn (evi_t (ev_v 0)) (Nat.le_trans l16.2 (by decide)) fun w hw b => ?_) (.inl rfl)
        have aw := h.amt w hw
        have q : (lawL ws / w.2).natAbs < 2 ^ 641 := by
          obtain ⟨q, e⟩ := g2 w hw
          have e2 : lawL ws / w.2 = q := by
            rw [e]
            exact Int.mul_ediv_cancel_left _ (Int.ne_of_gt aw.2.2.1)
          rw [e2]
          have q1 : q.natAbs ≤ (lawL ws).natAbs := by
            rw [e, Int.natAbs_mul]
            exact Nat.le_mul_of_pos_left _ (by have := aw.2.2.1; omega)
          exact Nat.lt_of_le_of_lt q1 g3
        exact ev_mul (mulx_ok aw.2.2.2.1 q (by decide)) (ev_ixT (ds := [.int w.1, .int w.2]) (ev_v 2) ev_int) (ev_fdiv (wide_div aw.2.2.1 aw.2.2.2.2 (by decide) (by decide)) (ev_v 1) (ev_ixT (ds := [.int w.1, .int w.2]) (ev_v 2) ev_int))
theorem d_lshare (c : Gd G) : DefG G "_law_share" 3 (spD G.K spLShare) :=
  c.df 59 (ps := ["_law_parts_here", "_law_chosen"]) rfl rfl (fun _ _ _ _ _ _ us hl => match us, hl with | [_, _], _ => rfl) fun f fd F =>
    fn_dat F (N := ["_law_parts_here", "_law_chosen", "_law_standing"]) (fnsc (by kernel_rfl)) (fun ds d ⟨_, _, _, _, _, _, _, e, _⟩ => by rw [e]; rfl) fun i ds d hn hr ⟨xs, ks, h0, hm, hl, hk, hkl, e1, e2⟩ => by
      subst e1 e2
      refine ws_ret (μ' := []) (ev_call (d_llow c) hr (evd_cons (ev_sum (ns := ks.map fun k => xs.getD k 0) rfl (c.fr 86) sl_l (ev_is (ev_lcMap (l := ks) (g := natD) (f := fun k => PyData.int (xs.getD k 0)) (j := 2) rfl hn (evi_l (ev_v 1)) (Nat.le_trans hkl (by decide)) fun u hu b => ?_) (by rw [List.map_map]; rfl))) (evd_cons (ev_sum (ns := xs) rfl (c.fr 86) sl_l (ev_v 0)) evd_nil)) ⟨_, _, h0, hm, rfl, rfl⟩) (.inl rfl)
      exact ev_ixK (l := xs) (g := PyData.int) sq_l (ev_v 0) (ev_v 2) (by rw [List.getD_eq_getElem?_getD, List.getElem?_eq_getElem (hk u hu)]; rfl)
theorem d_lseated (c : Gd G) : DefG G "_law_seated" 4 (spD G.K spSeated) :=
  c.df 60 (ps := ["_law_parts_here", "_law_seat"]) rfl rfl (fun _ _ _ _ _ _ us hl => match us, hl with | [_, _], _ => rfl) fun f fd F =>
    fn_dat F (N := ["_law_parts_here", "_law_seat", "_law_standing"]) (fnsc (by kernel_rfl)) (fun ds d ⟨_, _, _, _, _, _, e, _⟩ => by rw [e]; rfl) fun i ds d hn hr ⟨xs, i, h0, hm, hl, hi, e1, e2⟩ => by
      subst e1 e2
      refine ws_ret (μ' := []) (ev_call (d_lshare c) hr (evd_cons (ev_v 0) (evd_cons (d := .list ((bitsF xs.length [i]).map natD)) ?_ evd_nil)) ⟨xs, bitsF xs.length [i], h0, hm, hl, bitsF_lt, Nat.le_trans (bitsF_len _ _) hl, rfl, rfl⟩) (.inl rfl)
      rw [bits1]
      exact ev_lcFilter (l := List.range xs.length) (g := natD) (f := natD) (kp := fun s => s.testBit i) (j := 2) rfl hn (evi_n1 (c.fr 83) (by omega) (ev_is (ev_len sq_l (c.fr 80) (ev_v 0)) (by rw [List.length_map]))) (by rw [List.length_range]; exact Nat.le_trans hl (by decide)) fun u hu => ⟨fun b => evf_one (evt_val (ev_call (d_lhas c) (hr.mono (by decide)) (evd_cons (ev_v 2) (evd_cons (ev_v 1) evd_nil)) ⟨u, i, hi, rfl, rfl⟩)), fun _ b => ev_v 2⟩
theorem d_lboth (c : Gd G) : DefG G "_law_both" 4 (spD G.K spBoth) :=
  c.df 61 (ps := ["_law_parts_here", "_law_one", "_law_two"]) rfl rfl (fun _ _ _ _ _ _ us hl => match us, hl with | [_, _, _], _ => rfl) fun f fd F =>
    fn_dat F (N := ["_law_parts_here", "_law_one", "_law_two", "_law_some_here", "_law_standing"]) (fnsc (by kernel_rfl)) (fun ds d ⟨_, _, _, _, _, _, _, _, e, _⟩ => by rw [e]; rfl) fun i ds d hn hr ⟨xs, i, j, h0, hm, hl, hi, hj, e1, e2⟩ => by
      subst e1 e2
      have key : picked (fun s => s.testBit i && s.testBit j) natD xs.length = (bitsF xs.length [i, j]).map natD := by
        unfold picked
        rw [bits2]
      refine ws_setLc (i := 3) (j := 4) (M := fun _ => []) (keep := fun s => s.testBit i && s.testBit j) (val := natD) (n := xs.length) rfl hn (evi_n1 (n := xs.length) (c.fr 83) (by omega) (ev_is (ev_len sq_l (c.fr 80) (ev_v 0)) (by rw [List.length_map]))) (by rw [List.length_map, List.length_range]) (Nat.le_trans hl (by decide)) (fun k d hd => ?_) ?_ (sw_true rfl rfl rfl rfl) (hj := Nat.lt_of_sub_eq_succ rfl)
      · obtain ⟨u, hu, rfl⟩ := map_inv hd
        obtain ⟨rfl, _⟩ := range_inv hu
        exact ⟨[], fun b => evf_one (evt_of (evw_and' (evt_val (ev_call (d_lhas c) (hr.mono (by decide)) (evd_cons (ev_v 4) (evd_cons (ev_v 1) evd_nil)) ⟨u, i, hi, rfl, rfl⟩)) fun _ => evw_and1 (evt_val (ev_call (d_lhas c) (hr.mono (by decide)) (evd_cons (ev_v 4) (evd_cons (ev_v 2) evd_nil)) ⟨u, j, hj, rfl, rfl⟩)))), fun _ => rfl, fun _ b => ev_v 4⟩
      · rw [key]
        exact ws_ret (ev_call (d_lshare c) hr (evd_cons (ev_v 0) (evd_cons (ev_v 3) evd_nil)) ⟨xs, bitsF xs.length [i, j], h0, hm, hl, bitsF_lt, Nat.le_trans (bitsF_len _ _) hl, rfl, rfl⟩) (.inl rfl)
theorem d_lpull (c : Gd G) : DefG G "_law_pull" 5 (spD G.K spLPull) :=
  c.df 67 (ps := ["_law_parts_here", "_law_one", "_law_two"]) rfl rfl (fun _ _ _ _ _ _ us hl => match us, hl with | [_, _, _], _ => rfl) fun f fd F =>
    fn_dat F (N := ["_law_parts_here", "_law_one", "_law_two"]) (fnsc (by kernel_rfl)) (fun ds d ⟨_, _, _, _, _, _, _, _, e, _⟩ => by rw [e]; rfl) fun i ds d hn hr ⟨xs, i, j, h0, hl, lt, hi, hj, e1, e2⟩ => by
      subst e1 e2
      have slt : xs.sum.natAbs < 2 ^ 1886 := sum_lt16 lt hl
      have clt : ∀ ks, (chosen xs (bitsF xs.length ks)).natAbs < 2 ^ 1886 := fun ks => chosen_lt lt bitsF_lt (Nat.le_trans (bitsF_len _ _) hl)
      have shz : ∀ ks, Szp 1886 (shareQ xs ks) := fun ks => szp_nrm h0 (clt ks) slt
      have hm : mid xs.sum := Nat.lt_of_lt_of_le slt (Nat.pow_le_pow_right (by decide) (by decide))
      exact ws_ret (ev_call (d_ltake c) (hr.mono (by decide)) (evd_cons (ev_call (d_lboth c) hr (evd_cons (ev_v 0) (evd_cons (ev_v 1) (evd_cons (ev_v 2) evd_nil))) ⟨xs, i, j, h0, hm, by omega, hi, hj, rfl, rfl⟩) (evd_cons (ev_call (d_lmul c) (hr.mono (by decide)) (evd_cons (ev_call (d_lseated c) hr (evd_cons (ev_v 0) (evd_cons (ev_v 1) evd_nil)) ⟨xs, i, h0, hm, by omega, hi, rfl, rfl⟩) (evd_cons (ev_call (d_lseated c) hr (evd_cons (ev_v 0) (evd_cons (ev_v 2) evd_nil)) ⟨xs, j, h0, hm, by omega, hj, rfl, rfl⟩) evd_nil)) ⟨_, _, (shz [i]).ok (by decide), (shz [j]).ok (by decide), rfl, rfl⟩) evd_nil)) ⟨_, _, (shz [i, j]).ok (by decide), ((shz [i]).times (shz [j])).ok (by decide), rfl, rfl⟩) (.inl rfl)
theorem d_llink (c : Gd G) : DefG G "_law_link" 4 (spD G.K spLink) :=
  c.df 64 (ps := ["_law_weights", "_law_one", "_law_two", "_law_standing"]) rfl rfl (fun _ _ _ _ _ _ us hl => match us, hl with | [_, _, _, _], _ => rfl) fun f fd F =>
    fn_dat F (N := ["_law_weights", "_law_one", "_law_two", "_law_standing", "_law_top"]) (fnsc (by kernel_rfl)) (fun ds d ⟨_, _, _, _, _, _, _, _, _, e, _⟩ => by rw [e]; rfl) fun i ds d hn hr ⟨ws, n, i, j, s, hw, hi, hj, hs, e1, e2⟩ => by
      subst e1 e2
      have a : ∀ k, k < ws.length → Amt (at1 ws k) := fun k hk => hw.amt _ (at1_mem hk)
      have a1 := a _ hs
      obtain ⟨b1, b2, b3⟩ := idx3 hs
      have a2 := a s b1
      have a3 := a (s + 2 ^ i) b2
      have a4 := a (s + 2 ^ j) b3
      refine ws_set (i := 4) (ev_call (d_lmul c) hr (evd_cons (ev_ixK (g := pp) sq_t (ev_v 0) (ev_is (ev_add (ev_is (ev_add (ev_v 3) (ev_shlN (by omega) ev_int (ev_v 1))) (congrArg Slot.dat (natD_add s (2 ^ i)))) (ev_shlN (by omega) ev_int (ev_v 2))) (congrArg Slot.dat (natD_add (s + 2 ^ i) (2 ^ j)))) (at1_some hs)) (evd_cons (ev_ixK (g := pp) sq_t (ev_v 0) (ev_v 3) (at1_some b1)) evd_nil)) ⟨_, _, a1.2.2.ok (by decide), a2.2.2.ok (by decide), rfl, rfl⟩) ?_ hn
      exact ws_ret (ev_call (d_lover c) hr (evd_cons (ev_v 4) (evd_cons (ev_call (d_lmul c) hr (evd_cons (ev_ixK (g := pp) sq_t (ev_v 0) (ev_is (ev_add (ev_v 3) (ev_shlN (by omega) ev_int (ev_v 1))) (congrArg Slot.dat (natD_add s (2 ^ i)))) (at1_some b2)) (evd_cons (ev_ixK (g := pp) sq_t (ev_v 0) (ev_is (ev_add (ev_v 3) (ev_shlN (by omega) ev_int (ev_v 2))) (congrArg Slot.dat (natD_add s (2 ^ j)))) (at1_some b3)) evd_nil)) ⟨_, _, a3.2.2.ok (by decide), a4.2.2.ok (by decide), rfl, rfl⟩) evd_nil))
        ⟨_, _, (a1.2.2.times a2.2.2).ok (by decide), (a3.2.2.times a4.2.2).ok (by decide), times_pos a3.1 a4.1 a3.2.2.1 a4.2.2.1, rfl, rfl⟩) (.inl rfl)
end
end Gu
end
section
set_option Elab.async false
set_option linter.all false
set_option maxRecDepth 100000
set_option maxHeartbeats 4000000
set_option exponentiation.threshold 20000
namespace Gu
open PySem PySem.Spec PyProof.Rows L2
def ssOk (ss : List (Int × Int)) : Prop := ss.length ≤ 4 ∧ ∀ t ∈ ss, Str2 t
def spParts (ds : List PyData) (d : PyData) : Prop := ∃ ws n ss, Car ws n ∧ ssOk ss ∧ ds = [carD ws, StrD ss] ∧ d = intsD (partsL ws ss)
def spPartsR (d1 : PyData) (ms : List PyData) (d : PyData) : Prop := ∃ ws n ss, Car ws n ∧ ssOk ss ∧ d1 = carD ws ∧ ms = ss.map pp ∧ d = intsD (partsL ws ss)
def lfirstD : Option (Nat × Nat × Nat) → PyData
  | none => .list []
  | some r => .list [natD r.1, natD r.2.1, natD r.2.2]
theorem last_at {μ : Mem} {x : List PyData} : (μ ++ [x])[μ.length]? = some x := by simp
theorem last_set {μ : Mem} {x y : List PyData} : (μ ++ [x]).set μ.length y = μ ++ [y] := by simp
section
variable {G : Gv}
/-- the body of _law_parts, the strengths in any sequence -/
theorem parts_body (c : Gd G) {k0 : Nat} {i : Bi} {N : List Str} (eN : N = (["_law_weights", "_law_own", "_law_standing", "_law_found", "_law_whole", "_law_part", "_law_seat"] : List Str)) (hn : N.Nodup) (hr : Room k0 (bX G N "_law_parts" (defScope (topS 190)) i).A) (hk0 : 2 ≤ k0) {ws ss : List (Int × Int)} {n : Nat} (h : Car ws n) (hs : ssOk ss) {s : Slot} {μ0 : Mem} (hq : ∀ l, Seqs (μ0 ++ [l]) s (ss.map pp)) (hun : s ≠ .un) {P : Out → Prop}
    (hP : P (.rt (.mut μ0.length) (μ0 ++ [(partsL ws ss).map PyData.int]))) : Ws (bX G N "_law_parts" (defScope (topS 190)) i) (defBody (topS 190)) (slots0 N [.dat (carD ws), s]) μ0 P := by
  subst eN
  have l16 := h.len16
  refine ws_par (i := 3) (j := 4) (eva_cons (ev_lstM evd_nil) (eva_cons (ev_call (d_lscaled c) (hr.mono hk0) (evd_cons (ev_v 0) evd_nil) ⟨ws, n, h, rfl, rfl⟩) eva_nil)) ?_ rfl hn
  refine ws_forN (I := fun i ρ μ => ∃ a b e, μ = μ0 ++ [((partsL ws ss).take i).map PyData.int] ∧ ρ = [.dat (carD ws), s, a, .mut μ0.length, .dat (.list (((List.range ws.length).map (whole ws)).map PyData.int)), b, e]) 2 bX_own rfl hn (evi_n1 (n := ws.length) (c.fr 83) (by omega) (ev_is (ev_len sq_t (c.fr 80) (ev_v 0)) (by rw [List.length_map]))) ⟨.un, .un, .un, rfl, rfl⟩ ?_ ?_
  · rintro i d ρ μ hd ⟨a, b, e, rfl, rfl⟩
    obtain ⟨u, hu, rfl⟩ := map_inv hd
    obtain ⟨rfl, hil⟩ := range_inv hu
    obtain ⟨w1, w2, w3⟩ := whole_ok h.amt l16.2 hil
    have ew : ((List.range ws.length).map (whole ws))[u]? = some (whole ws u) := by rw [List.getElem?_map, List.getElem?_range hil]; rfl
    refine ws_set (i := 5) (ev_ixK (l := (List.range ws.length).map (whole ws)) (g := PyData.int) (s := .dat (.list (((List.range ws.length).map (whole ws)).map PyData.int))) sq_l (ev_v 4) (ev_v 2) ew) ?_ hn
    refine ws_forN (I := fun k ρ μ => ∃ e, k ≤ ss.length ∧ μ = μ0 ++ [((partsL ws ss).take u).map PyData.int] ∧ ρ = [.dat (carD ws), s, .dat (natD u), .mut μ0.length, .dat (.list (((List.range ws.length).map (whole ws)).map PyData.int)), .dat (.int (pP ss u (whole ws u) k)), e]) 6 bX_own rfl hn (evi_n1 (n := ss.length) (c.fr 83) (by have := hs.1; omega) (ev_is (ev_len (hq _) (c.fr 80) (ev_v 1 rfl hun)) (by rw [List.length_map]))) ⟨e, Nat.zero_le _, rfl, rfl⟩ ?_ ?_
    · rintro k d ρ μ hd ⟨e, hk, rfl, rfl⟩
      obtain ⟨v, hv, rfl⟩ := map_inv hd
      obtain ⟨rfl, hkl⟩ := range_inv hv
      have hkl2 : v < ss.length := hkl
      have t := hs.2 _ (at1_mem hkl2)
      have pl := pP_lt (s := u) w2 hs.2 v (by omega)
      refine ws_set (i := 5) (ev_mul (i := pP ss u (whole ws u) v) (j := if u.testBit v then (at1 ss v).1 else (at1 ss v).2) ?_ (ev_v 5) (ev_if (k := u.testBit v) (evt_val (ev_call (d_lhas c) (hr.mono (Nat.le_trans (show 1 ≤ 2 by decide) hk0)) (evd_cons (ev_v 2) (evd_cons (ev_v 6) evd_nil)) ⟨u, v, by have := hs.1; omega, rfl, rfl⟩)) (fun hb => ?_) fun hb => ?_)) (ws_nil ⟨.dat (natD v), hkl2, rfl, rfl⟩) hn
      · refine mulx_ok pl (b := 300) ?_ (by have := hs.1; omega)
        split
        · exact t.2.2.2.1
        · exact t.2.2.2.2
      · rw [if_pos hb]
        exact ev_ixT (ds := [.int (at1 ss v).1, .int (at1 ss v).2]) (ev_ixK (l := ss) (g := pp) (hq _) (ev_v 1 rfl hun) (ev_v 6) (at1_some hkl2)) ev_int
      · rw [if_neg (by rw [hb]; exact Bool.false_ne_true)]
        exact ev_ixT (ds := [.int (at1 ss v).1, .int (at1 ss v).2]) (ev_ixK (l := ss) (g := pp) (hq _) (ev_v 1 rfl hun) (ev_v 6) (at1_some hkl2)) ev_int
    · rintro ρ μ ⟨e, _, rfl, rfl⟩
      rw [List.length_map, List.length_range]
      refine ws_append (ds := ((partsL ws ss).take u).map PyData.int) (ev_v 3) (ev_v 5) last_at ?_ (ws_nil ⟨.dat (natD u), _, e, ?_, rfl⟩) (hj1 := by rw [last_at]; rfl)
      · rw [List.length_map, List.length_take]
        exact Nat.le_trans (Nat.min_le_left _ _) (show u ≤ 100000 by omega)
      · have e4 : (partsL ws ss)[u]? = some (pP ss u (whole ws u) ss.length) := by
          unfold partsL
          rw [List.getElem?_map, List.getElem?_range hil]
          rfl
        rw [last_set, List.take_add_one, e4, List.map_append]
        rfl
  · rintro ρ μ ⟨a, b, e, rfl, rfl⟩
    rw [List.length_map, List.length_range, List.take_of_length_le (by rw [partsL_len]; exact Nat.le_refl _)]
    exact ws_ret (ev_v 3) hP
theorem sc_parts : FnScope ["_law_weights", "_law_own", "_law_standing", "_law_found", "_law_whole", "_law_part", "_law_seat"] ["_law_weights", "_law_own"] (defScope (topS 190)) := fnsc (by kernel_rfl)
theorem d_lparts (c : Gd G) : DefG G "_law_parts" 3 (spD G.K spParts) :=
  c.df 58 (ps := ["_law_weights", "_law_own"]) rfl rfl (fun _ _ _ _ _ _ us hl => match us, hl with | [_, _], _ => rfl) fun f fd F =>
    fn_dat F sc_parts (fun ds d ⟨_, _, _, _, _, e, _⟩ => by rw [e]; rfl) fun i ds d hn hr ⟨ws, n, ss, h, hs, e1, e2⟩ => by
      subst e1 e2
      exact parts_body c rfl hn hr (by decide) h hs (s := .dat (StrD ss)) (μ0 := []) (fun l => sq_t) (by intro z; cases z) (.inr ⟨0, _, rfl, rfl, rfl⟩)
theorem d_lpartsR (c : Gd G) : DefG G "_law_parts" 3 (spR G.K spPartsR) :=
  c.df 58 (ps := ["_law_weights", "_law_own"]) rfl rfl (fun _ _ _ _ _ _ us hl => match us, hl with | [_, _], _ => rfl) fun f fd F =>
    fn_ro F sc_parts rfl fun i d1 ms d hn hr ⟨ws, n, ss, h, hs, e1, e2, e3⟩ => by
      subst e1 e2 e3
      exact parts_body c rfl hn hr (by decide) h hs (s := .mut 0) (μ0 := [ss.map pp]) (fun l => sq_m rfl) (by intro z; cases z) ⟨rfl, 0, _, rfl, rfl, rfl⟩
def spLFirst (ds : List PyData) (d : PyData) : Prop := ∃ ws n, Car ws n ∧ ds = [carD ws] ∧ d = lfirstD (firstP ws n)
def lf3 (ws : List (Int × Int)) (i j s : Nat) : Option (Nat × Nat × Nat) := if (!s.testBit i && !s.testBit j) && badP ws i j s then some (i, j, s) else none
def lf2 (ws : List (Int × Int)) (i j : Nat) : Option (Nat × Nat × Nat) := (List.range ws.length).findSome? (lf3 ws i j)
def lf1 (ws : List (Int × Int)) (n i : Nat) : Option (Nat × Nat × Nat) := (List.range (n - (i + 1))).findSome? fun k => lf2 ws i (i + 1 + k)
theorem find_filter {α β : Type} (p : α → Bool) (f : α → Option β) : ∀ l : List α, (l.filter p).findSome? f = l.findSome? fun a => if p a then f a else none
  | [] => rfl
  | a :: l => by
    rw [List.filter_cons, List.findSome?_cons, ← find_filter p f l]
    cases p a <;> simp [List.findSome?_cons]
theorem find_flat {α β γ : Type} (g : α → List β) (f : β → Option γ) : ∀ l : List α, (l.flatMap g).findSome? f = l.findSome? fun a => (g a).findSome? f
  | [] => rfl
  | a :: l => by
    rw [List.flatMap_cons, List.findSome?_append, List.findSome?_cons, find_flat g f l]
    cases (g a).findSome? f <;> rfl
theorem find_map {α β γ : Type} (g : α → β) (f : β → Option γ) : ∀ l : List α, (l.map g).findSome? f = l.findSome? fun a => f (g a)
  | [] => rfl
  | a :: l => by rw [List.map_cons, List.findSome?_cons, List.findSome?_cons, find_map g f l]
theorem lfirst_eq (ws : List (Int × Int)) (n : Nat) : firstP ws n = (List.range n).findSome? (lf1 ws n) := by
  unfold firstP pairsN
  rw [find_flat]
  congr 1
  funext i
  rw [find_map]
  unfold lf1
  congr 1
  funext k
  unfold firstAt freeF lf2
  rw [find_filter]
  congr 1
  funext s
  unfold lf3
  cases (!s.testBit i && !s.testBit (i + 1 + k)) <;> simp
theorem d_lfirst (c : Gd G) : DefG G "_law_first" 5 (spD G.K spLFirst) :=
  c.df 68 (ps := ["_law_weights"]) rfl rfl (fun _ _ _ _ _ _ us hl => match us, hl with | [_], _ => rfl) fun f fd F =>
    fn_dat F (N := ["_law_weights", "_law_seats", "_law_one", "_law_two", "_law_standing"]) (fnsc (by kernel_rfl)) (fun ds d ⟨_, _, _, e, _⟩ => by rw [e]; rfl) fun i ds d hn hr ⟨ws, n, h, e1, e2⟩ => by
      subst e1 e2
      have h4 := h.n4
      have l16 := h.len16
      refine ws_set (i := 1) (ev_call (d_lcount c) (hr.mono (by decide)) (evd_cons (ev_v 0) evd_nil) ⟨ws, n, h, rfl, rfl⟩) ?_ hn
      refine ws_forN (I := fun i ρ μ => ((List.range n).take i).findSome? (lf1 ws n) = none ∧ ∃ a b e, μ = [] ∧ ρ = [.dat (carD ws), .dat (natD n), a, b, e]) 2 bX_own rfl hn (evi_n1 (n := n) (c.fr 83) (by omega) (ev_v 1)) ⟨rfl, .un, .un, .un, rfl, rfl⟩ ?_ ?_
      · rintro i d ρ μ hd ⟨no1, a, b, e, rfl, rfl⟩
        obtain ⟨u, hu, rfl⟩ := map_inv hd
        obtain ⟨rfl, hin⟩ := range_inv hu
        refine ws_forN (I := fun k ρ μ => ((List.range (n - (u + 1))).take k).findSome? (fun k => lf2 ws u (u + 1 + k)) = none ∧ ∃ b e, μ = [] ∧ ρ = [.dat (carD ws), .dat (natD n), .dat (natD u), b, e]) 3 bX_own rfl hn (evi_n2 (l := u + 1) (n := n) (c.fr 83) (by omega) (by omega) (ev_is (ev_add (ev_v 2) ev_int) rfl) (ev_v 1)) ⟨rfl, b, e, rfl, rfl⟩ ?_ ?_
        · rintro k d ρ μ hd ⟨no2, b, e, rfl, rfl⟩
          obtain ⟨v, hv, rfl⟩ := map_inv hd
          obtain ⟨rfl, hkn⟩ := range_inv hv
          have hp : (u, u + 1 + v) ∈ pairsN n := List.mem_flatMap.mpr ⟨u, List.mem_range.mpr hin, List.mem_map.mpr ⟨v, List.mem_range.mpr hkn, rfl⟩⟩
          obtain ⟨_, q4⟩ := free_in h4 _ hp
          rw [← h.len] at q4
          refine ws_forN (I := fun m ρ μ => ((List.range ws.length).take m).findSome? (lf3 ws u (u + 1 + v)) = none ∧ ∃ e, μ = [] ∧ ρ = [.dat (carD ws), .dat (natD n), .dat (natD u), .dat (natD (u + 1 + v)), e]) 4 bX_own rfl hn (evi_n1 (n := ws.length) (c.fr 83) (by omega) (ev_is (ev_len sq_t (c.fr 80) (ev_v 0)) (by rw [List.length_map]))) ⟨rfl, e, rfl, rfl⟩ ?_ ?_
          · rintro m d ρ μ hd ⟨no3, e, rfl, rfl⟩
            obtain ⟨s, hs, rfl⟩ := map_inv hd
            obtain ⟨rfl, hsl⟩ := range_inv hs
            refine ws_if (k := !s.testBit u && !s.testBit (u + 1 + v)) (μ1 := []) (evt_of (evw_and' (evt_not (evt_val (ev_call (d_lhas c) (hr.mono (by decide)) (evd_cons (ev_v 4) (evd_cons (ev_v 2) evd_nil)) ⟨s, u, by omega, rfl, rfl⟩))) fun _ => evw_and1 (evt_not (evt_val (ev_call (d_lhas c) (hr.mono (by decide)) (evd_cons (ev_v 4) (evd_cons (ev_v 3) evd_nil)) ⟨s, u + 1 + v, by omega, rfl, rfl⟩))))) (fun hf => ?_) fun hf => ?_
            · have hfm : s ∈ freeF ws.length u (u + 1 + v) := List.mem_filter.mpr ⟨List.mem_range.mpr hsl, hf⟩
              have q5 := q4 s hfm
              refine ws_ifr (k := badP ws u (u + 1 + v) s) (evt_val (ev_call (d_lunder c) (hr.mono (by decide)) (evd_cons (ev_call (d_llink c) hr (evd_cons (ev_v 0) (evd_cons (ev_v 2) (evd_cons (ev_v 3) (evd_cons (ev_v 4) evd_nil)))) ⟨ws, n, u, u + 1 + v, s, h, by omega, by omega, q5, rfl, rfl⟩) (evd_cons (ev_tup (evd_cons ev_int (evd_cons ev_int evd_nil))) evd_nil)) ⟨_, (1, 1), (link_ok h q5).ok (by decide), one_okp, rfl, rfl⟩)) (fun hb => ?_) fun hb => ?_
              · refine ws_ret (ev_lst (evd_cons (ev_v 2) (evd_cons (ev_v 3) (evd_cons (ev_v 4) evd_nil)))) (.inl ?_)
                have e3 : lf3 ws u (u + 1 + v) s = some (u, u + 1 + v, s) := by
                  unfold lf3
                  rw [hf, hb]
                  rfl
                have e2 : lf2 ws u (u + 1 + v) = some (u, u + 1 + v, s) := find_at no3 hs e3
                have e1 : lf1 ws n u = some (u, u + 1 + v, s) := find_at no2 hv e2
                have e0 : firstP ws n = some (u, u + 1 + v, s) := by
                  rw [lfirst_eq]
                  exact find_at no1 hu e1
                rw [e0]
                rfl
              · refine ws_nil (ws_nil ⟨find_none_succ no3 hs ?_, .dat (natD s), rfl, rfl⟩)
                unfold lf3
                rw [hf, hb]
                rfl
            · refine ws_nil (ws_nil ⟨find_none_succ no3 hs ?_, .dat (natD s), rfl, rfl⟩)
              unfold lf3
              rw [hf]
              rfl
          · rintro ρ μ ⟨no3, e, rfl, rfl⟩
            rw [List.length_map, List.take_length] at no3
            exact ws_nil ⟨find_none_succ no2 hv no3, _, e, rfl, rfl⟩
        · rintro ρ μ ⟨no2, b, e, rfl, rfl⟩
          rw [List.length_map, List.take_length] at no2
          exact ws_nil ⟨find_none_succ no1 hu no2, _, b, e, rfl, rfl⟩
      · rintro ρ μ ⟨no1, a, b, e, rfl, rfl⟩
        rw [List.length_map, List.take_length] at no1
        refine ws_ret (ev_lst evd_nil) (.inl ?_)
        have e0 : firstP ws n = none := by
          rw [lfirst_eq]
          exact no1
        rw [e0]
        rfl
end
end Gu
end
section
set_option Elab.async false
set_option linter.all false
set_option maxRecDepth 100000
set_option maxHeartbeats 4000000
set_option exponentiation.threshold 20000
namespace Gu
open PySem PySem.Spec PyProof.Rows L2
theorem parts_pre {ws ss : List (Int × Int)} {n i j : Nat} (h : Car ws n) (hs : ssOk ss) (hi : i ≤ 100) (hj : j ≤ 100) : spLPull [intsD (partsL ws ss), natD i, natD j] (pp (pullQ (partsL ws ss) i j)) := by
  have l16 := h.len16
  exact ⟨partsL ws ss, i, j, sum_pos (partsL_pos h.amt l16.2 hs.2) (by rw [partsL_len]; omega), by rw [partsL_len]; exact l16.2, partsL_lt h.amt l16.2 hs.2 hs.1, hi, hj, rfl, rfl⟩
theorem not_neg {ws : List (Int × Int)} {n : Nat} (h : Car ws n) {r : Nat × Nat × Nat} (hf : firstP ws n = some r) {k : Nat} (hk : 9 < k) (hno : ∀ k', k' < k → ∀ v, tl[k']? = some v → negB ws n r v = false) : False := by
  have z := hno 9 hk 256 rfl
  rw [neg256 h hf] at z
  cases z
def spLLow (ds : List PyData) (d : PyData) : Prop := ∃ ws n ss, ∃ i j : Nat, Car ws n ∧ ssOk ss ∧ i ≤ 100 ∧ j ≤ 100 ∧ ds = [carD ws, papD ss i j] ∧ d = .bool (decide ((pullQ (partsL ws ss) i j).1 < 0))
theorem lean_ss {n i j s t : Nat} (hn : n ≤ 4) (ht : t ≤ 256) : ssOk (leanP n i j s (2 ^ t)) := ⟨by rw [lean_len]; exact hn, lean_ok ht⟩
theorem star_const {u : Const} {j : Nat} {p : Pos} {es : List Expr} {env : Env} : starEach (.Constant u j p :: es) env = (false, eval (.Constant u j p) env) :: starEach es env := rfl
theorem evd_k {X : Cx} {ρ : List Slot} {μ μ2 : Mem} {i : Int} {j : Nat} {p : Pos} {es : List Expr} {ds : List PyData} (h : Evd X ρ μ es ds μ2) : Evd X ρ μ (.Constant (.int i) j p :: es) (.int i :: ds) μ2 := evd_cons ev_int h star_const
theorem fold_list {es : List Expr} {p : Pos} {env : Env} {x : Value} : foldedSetIterable (.List es p) env x = pure x := rfl
section
variable {G : Gv}
theorem d_ldue (c : Gd G) : DefG G "_law_due" 6 (spD G.K fun ds d => ∃ ws n, Car ws n ∧ ds = [carD ws] ∧ d = lowD ws n) :=
  c.df 69 (ps := ["_law_weights"]) rfl rfl (fun _ _ _ _ _ _ us hl => match us, hl with | [_], _ => rfl) fun f fd F =>
    fn_dat F (N := ["_law_weights", "_law_first_here", "_law_many", "_law_one", "_law_two", "_law_standing", "_law_seat", "_law_high", "_law_own"]) (fnsc (by kernel_rfl)) (fun ds d ⟨_, _, _, e, _⟩ => by rw [e]; rfl) fun i ds d hn hr ⟨ws, n, h, e1, e2⟩ => by
      subst e1 e2
      have h4 := h.n4
      have hu := hr.un
      refine ws_set (i := 1) (ev_call (d_lfirst c) hr (evd_cons (ev_v 0) evd_nil) ⟨ws, n, h, rfl, rfl⟩) ?_ hn
      cases hf : firstP ws n with
      | none =>
        refine ws_ifr (k := true) (evt_is (evt_eqD (d := .list []) (d' := .list []) (by omega) rfl rfl (ev_v 1) (ev_lst evd_nil)) rfl) (fun _ => ws_ret ev_non (.inl ?_)) fun z => by cases z
        unfold lowD
        rw [hf]
      | some r =>
        obtain ⟨i, j, s⟩ := r
        obtain ⟨m1, m2, m3, m4, m5⟩ := first_mem h hf
        have m1' : i < n := m1
        have m2' : j < n := m2
        refine ws_ifr (k := false) (evt_is (evt_eqD (d := .list [natD i, natD j, natD s]) (d' := .list []) (by omega) rfl rfl (ev_v 1) (ev_lst evd_nil)) rfl) (fun z => by cases z) fun _ => ?_
        refine ws_asg (ev_v 1) (evg_threeL (d1 := natD i) (d2 := natD j) (d3 := natD s) rfl (evg_name (i := 3) hn) (evg_name (i := 4) hn) (evg_name (i := 5) hn)) ?_
        refine ws_forN (I := fun k ρ μ => (∀ k', k' < k → ∀ v, tl[k']? = some v → negB ws n (i, j, s) v = false) ∧ ∃ a b e z, ρ = [.dat (carD ws), .dat (.list [natD i, natD j, natD s]), a, .dat (natD i), .dat (natD j), .dat (natD s), b, e, z]) 2 bX_own rfl hn
          (evi_l (ds := tl.map natD) (ev_is (ev_lst (evd_k (evd_k (evd_k (evd_k (evd_k (evd_k (evd_k (evd_k (evd_k (evd_k (evd_k evd_nil)))))))))))) rfl)) ⟨fun k' z => by omega, .un, .un, .un, .un, rfl⟩ ?_ ?_ (hs := fun _ => fold_list)
        · rintro k d ρ μ hd ⟨hno, a, b, e, z, rfl⟩
          obtain ⟨t, ht, rfl⟩ := map_inv hd
          have hk : k ≤ 9 := by
            rcases Nat.lt_or_ge 9 k with q | q
            · exact (not_neg h hf q hno).elim
            · exact q
          obtain ⟨ht2, _⟩ := tl_at hk ht
          refine ws_par (i := 7) (j := 8) (eva_cons (ev_call (d_lpower c) (hr.mono (by decide)) (evd_cons ev_int (evd_cons (ev_v 2) evd_nil)) ⟨2, t, by decide, by omega, rfl, rfl⟩) (eva_cons (ev_lstM evd_nil) eva_nil)) ?_ rfl hn
          refine ws_forN (I := fun m ρ μ' => ∃ b, μ' = μ ++ [((leanP n i j s (2 ^ t)).take m).map pp] ∧ ρ = [.dat (carD ws), .dat (.list [natD i, natD j, natD s]), .dat (natD t), .dat (natD i), .dat (natD j), .dat (natD s), b, .dat (.int (2 ^ t)), .mut μ.length]) 6 bX_own rfl hn (evi_n1 (n := n) (c.fr 83) (by omega) (ev_call (d_lcount c) (hr.mono (by decide)) (evd_cons (ev_v 0) evd_nil) ⟨ws, n, h, rfl, rfl⟩)) ⟨b, rfl, rfl⟩ ?_ ?_
          · rintro m d ρ μ' hd ⟨b, rfl, rfl⟩
            obtain ⟨u, hu, rfl⟩ := map_inv hd
            obtain ⟨rfl, hun⟩ := range_inv hu
            have ek : (leanP n i j s (2 ^ t))[u]? = some (leanA i j s (2 ^ t) u) := by
              unfold leanP
              rw [List.getElem?_map, List.getElem?_range hun]
              rfl
            have sl : small (((leanP n i j s (2 ^ t)).take u).map pp).length := by
              rw [List.length_map, List.length_take]
              exact Nat.le_trans (Nat.min_le_left _ _) (show u ≤ 100000 by omega)
            have nx : ((leanP n i j s (2 ^ t)).take u).map pp ++ [pp (leanA i j s (2 ^ t) u)] = ((leanP n i j s (2 ^ t)).take (u + 1)).map pp := by
              rw [List.take_add_one, ek, List.map_append]
              rfl
            refine ws_if (k := decide (u = i ∨ u = j)) (evt_is (evt_in (ds := [natD i, natD j]) sq_l rfl (fun d hd => ?_) (ev_v 6) (ev_lst (evd_cons (ev_v 3) (evd_cons (ev_v 4) evd_nil)))) inF_nat) (fun hb => ?_) fun hb => ?_
            · rcases List.mem_cons.mp hd with rfl | hd
              · rfl
              · rcases List.mem_singleton.mp hd with rfl
                rfl
            · have e : leanA i j s (2 ^ t) u = (1, 1) := by
                unfold leanA
                rw [if_pos (of_decide_eq_true hb)]
              rw [e] at nx
              refine ws_append (d := pp (1, 1)) (ds := ((leanP n i j s (2 ^ t)).take u).map pp) (ev_v 8) (ev_tup (evd_cons ev_int (evd_cons ev_int evd_nil))) last_at sl (ws_nil (ws_nil ⟨.dat (natD u), ?_, rfl⟩)) (hj1 := by rw [last_at]; rfl)
              rw [last_set, nx]
            · have e : leanA i j s (2 ^ t) u = if s.testBit u then (2 ^ t, 1) else (1, 2 ^ t) := by
                unfold leanA
                rw [if_neg (of_decide_eq_false hb)]
              refine ws_append (d := pp (leanA i j s (2 ^ t) u)) (ds := ((leanP n i j s (2 ^ t)).take u).map pp) (μ2 := μ ++ [((leanP n i j s (2 ^ t)).take u).map pp]) (ev_v 8) (ev_if (k := s.testBit u) (evt_val (ev_call (d_lhas c) (hr.mono (by decide)) (evd_cons (ev_v 5) (evd_cons (ev_v 6) evd_nil)) ⟨s, u, by omega, rfl, rfl⟩)) (fun hc => ?_) fun hc => ?_) last_at sl (ws_nil (ws_nil ⟨.dat (natD u), ?_, rfl⟩)) (hj1 := by rw [last_at]; rfl)
              · rw [e, hc]
                exact ev_tup (evd_cons (ev_v 7) (evd_cons ev_int evd_nil))
              · rw [e, hc]
                exact ev_tup (evd_cons ev_int (evd_cons (ev_v 7) evd_nil))
              · rw [last_set, nx]
          · rintro ρ μ' ⟨b, rfl, rfl⟩
            rw [List.length_map, List.length_range, List.take_of_length_le (by rw [lean_len]; exact Nat.le_refl _)]
            have ss := lean_ss (n := n) (i := i) (j := j) (s := s) h4 ht2
            refine ws_ifr (k := negB ws n (i, j, s) t) (evt_lt (ev_ixT (ds := [.int (pullQ (partsL ws (leanP n i j s (2 ^ t))) i j).1, .int (pullQ (partsL ws (leanP n i j s (2 ^ t))) i j).2]) (ev_call (d_lpull c) (hr.mono (by decide)) (evd_cons (ev_callR (d_lpartsR c) (hr.mono (by decide)) (eva_cons (ev_v 0) (eva_cons (ev_v 8) eva_nil)) last_at ⟨ws, n, _, h, ss, rfl, rfl, rfl⟩) (evd_cons (ev_v 3) (evd_cons (ev_v 4) evd_nil))) (parts_pre h ss (by omega) (by omega))) ev_int) ev_int) (fun hb => ?_) fun hb => ws_nil ⟨fun k' hk' v hv => ?_, _, _, _, _, rfl⟩
            · refine ws_ret (ev_tup (evd_cons (ev_tupleL (sl_m last_at) (c.fr 79) (ev_v 8)) (evd_cons (ev_v 3) (evd_cons (ev_v 4) evd_nil)))) (.inl ?_)
              unfold lowD
              rw [hf]
              show _ = Slot.dat (match tl.find? (negB ws n (i, j, s)) with
                | none => PyData.none
                | some t => dueD n (i, j, s) t)
              rw [find_negs hno ht hb]
              rfl
            · rcases Nat.lt_or_ge k' k with q | q
              · exact hno k' q v hv
              · have : k' = k := by omega
                subst this
                rw [ht] at hv
                cases hv
                exact hb
        · rintro ρ μ ⟨hno, a, b, e, z, rfl⟩
          exact (not_neg h hf (by decide) hno).elim
theorem d_llowers (c : Gd G) : DefG G "_law_lowers" 6 (spD G.K spLLow) :=
  c.df 70 (ps := ["_law_weights", "_law_told"]) rfl rfl (fun _ _ _ _ _ _ us hl => match us, hl with | [_, _], _ => rfl) fun f fd F =>
    fn_dat F (N := ["_law_weights", "_law_told"]) (fnsc (by kernel_rfl)) (fun ds d ⟨_, _, _, _, _, _, _, _, _, e, _⟩ => by rw [e]; rfl) fun i ds d hn hr ⟨ws, n, ss, i, j, h, hs, hi, hj, e1, e2⟩ => by
      subst e1 e2
      exact ws_ret (ev_lt (ev_ixT (ds := [.int (pullQ (partsL ws ss) i j).1, .int (pullQ (partsL ws ss) i j).2]) (ev_call (d_lpull c) hr (evd_cons (ev_call (d_lparts c) (hr.mono (by decide)) (evd_cons (ev_v 0) (evd_cons (ev_ixT (ds := [StrD ss, natD i, natD j]) (ev_v 1) ev_int) evd_nil)) ⟨ws, n, ss, h, hs, rfl, rfl⟩) (evd_cons (ev_ixT (ds := [StrD ss, natD i, natD j]) (ev_v 1) ev_int) (evd_cons (ev_ixT (ds := [StrD ss, natD i, natD j]) (ev_v 1) ev_int) evd_nil))) (parts_pre h hs hi hj)) ev_int) ev_int) (.inl rfl)
end
end Gu
end
section
set_option Elab.async false
set_option linter.all false
set_option maxRecDepth 100000
set_option maxHeartbeats 4000000
set_option exponentiation.threshold 20000
namespace Gu
open PySem PySem.Spec PyProof.Rows L2
/-! ### the vat -/
structure V3 where
  a : Int
  b : Int
  c : Int
def vD (v : V3) : List PyData := [.int v.a, .int v.b, .int v.c]
def sip (v : V3) (z : Nat) : Nat × V3 :=
  if 0 < v.a then ((v.a % z).toNat, ⟨v.a / z, v.b, v.c⟩)
  else
    let c := v.c + 1
    let s := (v.b + 83093 * c + 5) % 2147483579
    let b := (s * (s % 4421 + 27011) + 31 * c) % 2147483579
    ((b / 103 % z).toNat, ⟨v.a, b, c⟩)
theorem sip_lt (v : V3) {z : Nat} (h : 0 < z) : (sip v z).1 < z := by
  unfold sip
  split
  · show (v.a % (z : Int)).toNat < z
    have h1 := Int.emod_nonneg v.a (show (z : Int) ≠ 0 by omega)
    have h2 := Int.emod_lt_of_pos v.a (show (0 : Int) < z by omega)
    omega
  · show (((_ : Int) % (z : Int))).toNat < z
    generalize (((v.b + 83093 * (v.c + 1) + 5) % 2147483579 * ((v.b + 83093 * (v.c + 1) + 5) % 2147483579 % 4421 + 27011) + 31 * (v.c + 1)) % 2147483579 / 103 : Int) = q
    have h1 := Int.emod_nonneg q (show (z : Int) ≠ 0 by omega)
    have h2 := Int.emod_lt_of_pos q (show (0 : Int) < z by omega)
    omega
def spVat (ns : List Int) (ds : List PyData) (ms : List PyData) : Prop := ∃ k : Nat, k ≤ 100 ∧ ns.length ≤ 100 ∧ ds = [natD k] ∧ ∃ v : V3, ms = vD v ∧ True
def spSip (ms ds : List PyData) (d : PyData) (ms' : List PyData) : Prop := ∃ (v : V3) (z : Nat), 0 < z ∧ z < 1000000 ∧ ms = vD v ∧ ds = [natD z] ∧ d = natD (sip v z).1 ∧ ms' = vD (sip v z).2
section
variable {G : Gv}
theorem d_lsip (c : Gd G) : DefG G "_law_sip" 1 (spV G.K spSip) :=
  c.df 39 (ps := ["_law_vat_here", "_law_size"]) rfl rfl (fun _ _ _ _ _ _ us hl => match us, hl with | [_, _], _ => rfl) fun f fd F =>
    fn_vat F (N := ["_law_vat_here", "_law_size", "_law_start", "_law_figure"]) (fnsc (by kernel_rfl)) (fun ms ds d ms' ⟨_, _, _, _, _, e, _⟩ => by rw [e]; rfl) fun i ms ds d ms' hn hr ⟨v, z, hz, hz2, e0, e1, e2, e3⟩ => by
      subst e0 e1 e2 e3
      obtain ⟨a, b, cc⟩ := v
      refine ws_ifr (k := decide (0 < a)) (μ1 := [vD ⟨a, b, cc⟩]) (evt_gt (ev_ixS (ds := [.int a, .int b, .int cc]) (sq_m rfl) (ev_v 0) ev_int) ev_int) (fun hk => ?_) fun hk => ?_
      · have h0 := of_decide_eq_true hk
        have e : sip ⟨a, b, cc⟩ z = ((a % z).toNat, ⟨a / z, b, cc⟩) := by
          unfold sip
          rw [if_pos h0]
        rw [e]
        refine ws_subname (ds := vD ⟨a, b, cc⟩) (iy := 3) (i := 0) rfl hn (ev_divmod (i := a) (j := (z : Nat)) ⟨by omega, PyProof.noPylong_small (by omega)⟩ (c.fr 88) (ev_ixS (ds := [.int a, .int b, .int cc]) (sq_m rfl) (ev_v 0) ev_int) (ev_v 1)) (ev_v 0) ev_int rfl (by decide) (by show (0 : Int) < 3; decide) ?_
        refine ws_ret (ev_v 3) ⟨?_, rfl⟩
        have h1 := Int.emod_nonneg a (show (z : Int) ≠ 0 by omega)
        show Slot.dat (.int (a % z)) = Slot.dat (.int ((a % (z : Int)).toNat : Nat))
        rw [Int.toNat_of_nonneg h1]
      · have h0 : ¬ 0 < a := of_decide_eq_false hk
        generalize es : (b + 83093 * (cc + 1) + 5) % 2147483579 = st
        generalize eb : (st * (st % 4421 + 27011) + 31 * (cc + 1)) % 2147483579 = b'
        have s1 : 0 ≤ st := by omega
        have s2 : st < 2147483579 := by omega
        have e : sip ⟨a, b, cc⟩ z = ((b' / 103 % z).toNat, ⟨a, b', cc + 1⟩) := by
          unfold sip
          rw [if_neg h0]
          simp only [es, eb]
        rw [e]
        refine ws_setix (ds := vD ⟨a, b, cc⟩) (j := 0) (i := 2) (d := .int (cc + 1)) (ev_add (ev_ixS (ds := [.int a, .int b, .int cc]) (sq_m rfl) (ev_v 0) ev_int) ev_int) (ev_v 0) ev_int rfl (by decide) (by show (2 : Int) < 3; decide) ?_
        refine ws_set (i := 2) (s := .dat (.int st)) (ev_is (ev_mod (by decide) (ev_intC (c.fr 77) (ev_add (ev_add (ev_ixS (ds := [.int a, .int b, .int (cc + 1)]) (sq_m rfl) (ev_v 0) ev_int) (ev_mulS (.inl (by decide)) ev_int (ev_ixS (ds := [.int a, .int b, .int (cc + 1)]) (sq_m rfl) (ev_v 0) ev_int))) ev_int)) ev_int) (by rw [es])) ?_ hn
        refine ws_setix (ds := [.int a, .int b, .int (cc + 1)]) (j := 0) (i := 1) (d := .int b') (ev_is (ev_mod (by decide) (ev_intC (c.fr 77) (ev_add (ev_mulS (i := st) (j := st % 4421 + 27011) (.inl (by omega)) (ev_v 2) (ev_add (ev_mod (by decide) (ev_intC (c.fr 77) (ev_v 2)) ev_int) ev_int)) (ev_mulS (.inl (by decide)) ev_int (ev_ixS (ds := [.int a, .int b, .int (cc + 1)]) (sq_m rfl) (ev_v 0) ev_int)))) ev_int) (by rw [eb])) (ev_v 0) ev_int rfl (by decide) (by show (1 : Int) < 3; decide) ?_
        refine ws_ret (ev_mod (j := (z : Nat)) (by omega) (ev_intC (c.fr 77) (ev_fdiv ⟨by decide, by decide⟩ (ev_ixS (ds := [.int a, .int b', .int (cc + 1)]) (sq_m rfl) (ev_v 0) ev_int) ev_int)) (ev_v 1)) ⟨?_, rfl⟩
        have h1 := Int.emod_nonneg (b' / 103) (show (z : Int) ≠ 0 by omega)
        show Slot.dat (.int (b' / 103 % (z : Nat))) = Slot.dat (.int ((b' / 103 % (z : Int)).toNat : Nat))
        rw [Int.toNat_of_nonneg h1]
end
end Gu
end
section
set_option Elab.async false
set_option linter.all false
set_option maxRecDepth 100000
set_option maxHeartbeats 4000000
set_option exponentiation.threshold 20000
namespace Gu
open PySem PySem.Spec PyProof.Rows L2
def mixF (m c : Int) : Int := (m * 39119 + c % 1899999877 + 23) % 2147483579
def mixV (ns : List Int) (k : Nat) : Int := (ns.take 63).foldl mixF (30757 + 8467 * (k : Nat))
def cellV (ns : List Int) (k : Nat) : Int := if k < ns.length then ((ns.getD k 0).natAbs : Int) else 0
def vat0 (ns : List Int) (k : Nat) : V3 := ⟨if (10 : Int) ^ 18 ≤ cellV ns k then cellV ns k else 0, mixV ns k + 11 * (cellV ns k % 190000021), 0⟩
def spVat0 (ns : List Int) (ds : List PyData) (ms : List PyData) : Prop := ∃ k : Nat, ds = [natD k] ∧ ms = vD (vat0 ns k)
section
variable {G : Gv}
theorem d_lvat (c : Gd G) : DefG G "_law_vat" 1 (spN G.K spVat0) :=
  c.df 38 (ps := ["_law_script", "_law_lap"]) rfl rfl (fun _ _ _ _ _ _ us hl => match us, hl with | [_, _], _ => rfl) fun f fd F =>
    fn_new F (N := ["_law_script", "_law_lap", "_law_mixed", "_law_cell"]) (fnsc (by kernel_rfl)) (fun ns ds ms ⟨_, e, _⟩ => by rw [e]; rfl) fun i ns ds ms hn hr ⟨k, e1, e2⟩ => by
      subst e1 e2
      refine ws_set (i := 2) (ev_add ev_int (ev_mulS (.inl (by decide)) ev_int (ev_v 1))) ?_ hn
      refine ws_forN (I := fun i ρ μ => ∃ z, μ = [] ∧ ρ = [.scr ns, .dat (natD k), .dat (.int (((ns.take 63).take i).foldl mixF (30757 + 8467 * (k : Nat)))), z]) 3 bX_own rfl hn (evi_l (ds := (ns.take 63).map PyData.int) (ev_is (ev_to (k := 63) sl_s (ev_v 0) ev_int) (by rw [List.map_take]))) ⟨.un, rfl, rfl⟩ ?_ ?_
      · rintro i d ρ μ hd ⟨z, rfl, rfl⟩
        obtain ⟨u, hu, rfl⟩ := map_inv hd
        refine ws_set (i := 2) (ev_mod (by decide) (ev_intC (c.fr 77) (ev_add (ev_add (ev_mulS (.inr (by decide)) (ev_v 2) ev_int) (ev_mod (by decide) (ev_intC (c.fr 77) (ev_v 3)) ev_int)) ev_int)) ev_int) (ws_nil ⟨.dat (.int u), rfl, ?_⟩) hn
        rw [List.take_add_one (i := i), hu, List.foldl_append]
        rfl
      · rintro ρ μ ⟨z, rfl, rfl⟩
        rw [List.length_map, List.take_length]
        refine ws_set (i := 3) (μ' := []) (s := .dat (.int (cellV ns k))) (ev_if (k := decide (((k : Nat) : Int) < ((ns.map PyData.int).length : Nat))) (evt_lt (ev_v 1) (ev_len sq_s (c.fr 80) (ev_v 0))) (fun hb => ?_) fun hb => ?_) ?_ hn
        · have hl : k < ns.length := by
            have := of_decide_eq_true hb
            rw [List.length_map] at this
            omega
          have e : cellV ns k = ((ns.getD k 0).natAbs : Int) := by
            unfold cellV
            rw [if_pos hl]
          rw [e]
          exact ev_abs (c.fr 87) (ev_intC (c.fr 77) (ev_ixK (l := ns) (g := PyData.int) sq_s (ev_v 0) (ev_v 1) (by rw [List.getD_eq_getElem?_getD, List.getElem?_eq_getElem hl]; rfl)))
        · have hl : ¬ k < ns.length := by
            have := of_decide_eq_false hb
            rw [List.length_map] at this
            omega
          have e : cellV ns k = 0 := by
            unfold cellV
            rw [if_neg hl]
          rw [e]
          exact ev_int
        · refine ws_ret (μ' := [vD (vat0 ns k)]) (ev_lstM (μ' := []) (ds := vD (vat0 ns k)) (evd_cons (d := .int (vat0 ns k).a) (ev_if (k := decide ((10 : Int) ^ 18 ≤ cellV ns k)) (evt_ge (ev_v 3) (ev_pow (i := 10) (j := 18) ⟨by decide, by decide, by decide⟩ ev_int ev_int)) (fun hb => ?_) fun hb => ?_) (evd_cons (ev_add (ev_v 2) (ev_mulS (.inl (by decide)) ev_int (ev_mod (by decide) (ev_intC (c.fr 77) (ev_v 3)) ev_int))) (evd_cons ev_int evd_nil)))) ⟨0, rfl, rfl⟩
          · have e : (vat0 ns k).a = cellV ns k := by
              unfold vat0
              exact if_pos (of_decide_eq_true hb)
            rw [e]
            exact ev_v 3
          · have e : (vat0 ns k).a = 0 := by
              unfold vat0
              exact if_neg (of_decide_eq_false hb)
            rw [e]
            exact ev_int
end
end Gu
end
section
set_option Elab.async false
set_option linter.all false
set_option maxRecDepth 100000
set_option maxHeartbeats 4000000
set_option exponentiation.threshold 20000
namespace Gu
open PySem PySem.Spec PyProof.Rows L2
def spOf (ms ds : List PyData) (d : PyData) (ms' : List PyData) : Prop := ∃ (v : V3) (l : List PyData), 0 < l.length ∧ l.length < 1000 ∧ ms = vD v ∧ ds = [.list l] ∧ d = l.getD (sip v l.length).1 .none ∧ ms' = vD (sip v l.length).2
def ofN (v : V3) (l : List Nat) : Nat × V3 := (l.getD (sip v l.length).1 1, (sip v l.length).2)
def ofP (v : V3) (l : List (Int × Int)) : (Int × Int) × V3 := (l.getD (sip v l.length).1 (1, 1), (sip v l.length).2)
theorem spOf_map {α : Type} {v : V3} {l : List α} {g : α → PyData} {u : α} (h0 : 0 < l.length) (h1 : l.length < 1000) : spOf (vD v) [.list (l.map g)] (g (l.getD (sip v l.length).1 u)) (vD (sip v l.length).2) := by
  have hs := sip_lt v h0
  refine ⟨v, l.map g, by rw [List.length_map]; exact h0, by rw [List.length_map]; exact h1, rfl, rfl, ?_, by rw [List.length_map]⟩
  rw [List.length_map, List.getD_eq_getElem?_getD, List.getD_eq_getElem?_getD, List.getElem?_map, List.getElem?_eq_getElem hs]
  rfl
def someF (v : V3) (w : Nat) : (Int × Int) × V3 :=
  (nrm (1 + (sip v w).1) (1 + (sip (ofN (sip v w).2 [1, 1, 2, w]).2 (ofN (sip v w).2 [1, 1, 2, w]).1).1), (sip (ofN (sip v w).2 [1, 1, 2, w]).2 (ofN (sip v w).2 [1, 1, 2, w]).1).2)
def spSome (ms ds : List PyData) (d : PyData) (ms' : List PyData) : Prop := ∃ (v : V3) (w : Nat), 0 < w ∧ w ≤ 1000 ∧ ms = vD v ∧ ds = [natD w] ∧ d = pp (someF v w).1 ∧ ms' = vD (someF v w).2
theorem ofN_mem {v : V3} {l : List Nat} (h : 0 < l.length) : (ofN v l).1 ∈ l := by
  have hs := sip_lt v h
  unfold ofN
  show l.getD _ 1 ∈ l
  rw [List.getD_eq_getElem?_getD, List.getElem?_eq_getElem hs]
  exact List.getElem_mem hs
section
variable {G : Gv}
theorem d_lof (c : Gd G) : DefG G "_law_of" 2 (spV G.K spOf) :=
  c.df 40 (ps := ["_law_vat_here", "_law_some_here"]) rfl rfl (fun _ _ _ _ _ _ us hl => match us, hl with | [_, _], _ => rfl) fun f fd F =>
    fn_vat F (N := ["_law_vat_here", "_law_some_here"]) (fnsc (by kernel_rfl)) (fun ms ds d ms' ⟨_, _, _, _, _, e, _⟩ => by rw [e]; rfl) fun i ms ds d ms' hn hr ⟨v, l, h0, h1, e0, e1, e2, e3⟩ => by
      subst e0 e1 e2 e3
      refine ws_ret (μ' := [vD (sip v l.length).2]) (s := .dat (l.getD (sip v l.length).1 .none)) (ev_ixS (i := ((sip v l.length).1 : Nat)) (ds := l) (μ2 := [vD (sip v l.length).2]) sq_l (ev_v 1) (ev_callV (j := 0) (ms' := vD (sip v l.length).2) (d := natD (sip v l.length).1) (μ' := [vD v]) (ds := [natD l.length]) (d_lsip c) hr (eva_cons (ev_v 0) (eva_cons (ev_len sq_l (c.fr 80) (ev_v 1)) eva_nil)) rfl ⟨v, l.length, h0, by omega, rfl, rfl, rfl, rfl⟩) ?_ (by omega)) ⟨rfl, rfl⟩
      rw [Int.toNat_natCast, List.getD_eq_getElem?_getD, List.getElem?_eq_getElem (sip_lt v h0)]
      rfl
theorem d_lsome (c : Gd G) : DefG G "_law_some" 3 (spV G.K spSome) :=
  c.df 48 (ps := ["_law_vat_here", "_law_wide"]) rfl rfl (fun _ _ _ _ _ _ us hl => match us, hl with | [_, _], _ => rfl) fun f fd F =>
    fn_vat F (N := ["_law_vat_here", "_law_wide"]) (fnsc (by kernel_rfl)) (fun ms ds d ms' ⟨_, _, _, _, _, e, _⟩ => by rw [e]; rfl) fun i ms ds d ms' hn hr ⟨v, w, h0, h1, e0, e1, e2, e3⟩ => by
      subst e0 e1 e2 e3
      have q0 : 0 < (ofN (sip v w).2 [1, 1, 2, w]).1 ∧ (ofN (sip v w).2 [1, 1, 2, w]).1 ≤ 1000 := by
        have z := ofN_mem (v := (sip v w).2) (l := [1, 1, 2, w]) (Nat.zero_lt_succ _)
        simp only [List.mem_cons, List.not_mem_nil, or_false] at z
        omega
      have y0 := sip_lt (ofN (sip v w).2 [1, 1, 2, w]).2 q0.1
      have hm : mid (1 + ((sip (ofN (sip v w).2 [1, 1, 2, w]).2 (ofN (sip v w).2 [1, 1, 2, w]).1).1 : Nat)) := by
        unfold mid
        exact Nat.lt_of_le_of_lt (show _ ≤ 2 ^ 12 by omega) (Nat.pow_lt_pow_right (by decide) (by decide))
      exact ws_ret (μ' := [vD (someF v w).2]) (ev_call (d_llow c) hr (evd_cons (ev_add ev_int (ev_callV (μ' := [vD v]) (ds := [natD w]) (d_lsip c) (hr.mono (by decide)) (eva_cons (ev_v 0) (eva_cons (ev_v 1) eva_nil)) rfl ⟨v, w, h0, by omega, rfl, rfl, rfl, rfl⟩))
        (evd_cons (ev_add ev_int (ev_callV (μ' := [vD (ofN (sip v w).2 [1, 1, 2, w]).2]) (ds := [natD (ofN (sip v w).2 [1, 1, 2, w]).1]) (d_lsip c) (hr.mono (by decide)) (eva_cons (ev_v 0) (eva_cons (ev_callV (μ' := [vD (sip v w).2]) (ds := [.list ([1, 1, 2, w].map natD)]) (d_lof c) hr (eva_cons (ev_v 0) (eva_cons (ev_lst (evd_cons ev_int (evd_cons ev_int (evd_cons ev_int (evd_cons (ev_v 1) evd_nil))))) eva_nil)) rfl (spOf_map (u := 1) (Nat.zero_lt_succ _) (Nat.lt_of_sub_eq_succ rfl))) eva_nil)) rfl ⟨_, _, q0.1, by omega, rfl, rfl, rfl, rfl⟩)) evd_nil)) ⟨_, _, by omega, hm, rfl, rfl⟩) ⟨rfl, rfl⟩
end
end Gu
end
section
set_option Elab.async false
set_option linter.all false
set_option maxRecDepth 100000
set_option maxHeartbeats 4000000
set_option exponentiation.threshold 20000
namespace Gu
open PySem PySem.Spec PyProof.Rows L2
def doseF (v : V3) : (Int × Int) × V3 :=
  if (sip v 8).1 = 0 then ((10 ^ (1 + (sip (sip v 8).2 9).1), 1), (sip (sip v 8).2 9).2)
  else if (sip v 8).1 = 1 then ((1, 10 ^ (1 + (sip (sip v 8).2 9).1)), (sip (sip v 8).2 9).2)
  else someF (ofN (sip v 8).2 [3, 6, 20, 97]).2 (ofN (sip v 8).2 [3, 6, 20, 97]).1
def spDose (ms ds : List PyData) (d : PyData) (ms' : List PyData) : Prop := ∃ v : V3, ms = vD v ∧ ds = [] ∧ d = pp (doseF v).1 ∧ ms' = vD (doseF v).2
def freeW (fs : List (Int × Int)) : List (Int × Int) := (List.range (2 ^ fs.length)).map fun s => wP fs s (1, 1) fs.length
def fsOk (fs : List (Int × Int)) : Prop := fs.length ≤ 4 ∧ ∀ t ∈ fs, Szp 300 t
def spProduct (ds : List PyData) (d : PyData) : Prop := ∃ (fs : List (Int × Int)) (s : Nat), fsOk fs ∧ ds = [.list (fs.map pp), natD s] ∧ d = pp (wP fs s (1, 1) fs.length)
def spLFree (ds : List PyData) (d : PyData) : Prop := ∃ fs : List (Int × Int), fsOk fs ∧ ds = [.list (fs.map pp)] ∧ d = carD (freeW fs)
theorem wP_szF {fs : List (Int × Int)} {s : Nat} (h : fsOk fs) : ∀ k, k ≤ fs.length → Szp (1 + 300 * k) (wP fs s (1, 1) k)
  | 0, _ => (show Szp 1 (1, 1) from ⟨by decide, by decide, by decide⟩)
  | k + 1, hk => by
    have ih := wP_szF (s := s) h k (by omega)
    have t := h.2 _ (at1_mem (show k < fs.length by omega))
    unfold wP
    rw [show 1 + 300 * (k + 1) = 1 + 300 * k + 300 by omega]
    split
    · exact ih.times t
    · exact ⟨ih.1, Nat.lt_of_lt_of_le ih.2.1 (Nat.pow_le_pow_right (by decide) (by omega)), Nat.lt_of_lt_of_le ih.2.2 (Nat.pow_le_pow_right (by decide) (by omega))⟩
section
variable {G : Gv}
theorem d_lproduct (c : Gd G) : DefG G "_law_product" 4 (spD G.K spProduct) :=
  c.df 52 (ps := ["_law_factors", "_law_standing"]) rfl rfl (fun _ _ _ _ _ _ us hl => match us, hl with | [_, _], _ => rfl) fun f fd F =>
    fn_dat F (N := ["_law_factors", "_law_standing", "_law_found", "_law_seat"]) (fnsc (by kernel_rfl)) (fun ds d ⟨_, _, _, e, _⟩ => by rw [e]; rfl) fun i ds d hn hr ⟨fs, s, h, e1, e2⟩ => by
      subst e1 e2
      have hl := h.1
      refine ws_set (i := 2) (ev_tup (evd_cons ev_int (evd_cons ev_int evd_nil))) ?_ hn
      refine ws_forN (I := fun k ρ μ => ∃ a, μ = [] ∧ ρ = [.dat (.list (fs.map pp)), .dat (natD s), .dat (pp (wP fs s (1, 1) k)), a]) 3 bX_own rfl hn (evi_n1 (n := fs.length) (c.fr 83) (by omega) (ev_is (ev_len sq_l (c.fr 80) (ev_v 0)) (by rw [List.length_map]))) ⟨.un, rfl, rfl⟩ ?_ ?_
      · rintro k d ρ μ hd ⟨a, rfl, rfl⟩
        obtain ⟨u, hu, rfl⟩ := map_inv hd
        obtain ⟨rfl, hul⟩ := range_inv hu
        refine ws_if (k := s.testBit u) (evt_val (ev_call (d_lhas c) (hr.mono (by decide)) (evd_cons (ev_v 1) (evd_cons (ev_v 3) evd_nil)) ⟨s, u, by omega, rfl, rfl⟩)) (fun hb => ?_) fun hb => ?_
        · refine ws_set (i := 2) (ev_call (d_lmul c) hr (evd_cons (ev_v 2) (evd_cons (ev_ixK (l := fs) (g := pp) sq_l (ev_v 0) (ev_v 3) (at1_some hul)) evd_nil)) ⟨_, _, (wP_szF h u (by omega)).ok (by omega), (h.2 _ (at1_mem hul)).ok (by decide), rfl, rfl⟩) (ws_nil (ws_nil ⟨.dat (natD u), rfl, ?_⟩)) hn
          have e : wP fs s (1, 1) (u + 1) = timesP (wP fs s (1, 1) u) (at1 fs u) := by
            show (if s.testBit u = true then _ else _) = _
            rw [if_pos hb]
          rw [e]
          rfl
        · refine ws_nil (ws_nil ⟨.dat (natD u), rfl, ?_⟩)
          have e : wP fs s (1, 1) (u + 1) = wP fs s (1, 1) u := by
            show (if s.testBit u = true then _ else _) = _
            rw [hb]
            rfl
          rw [e]
          rfl
      · rintro ρ μ ⟨a, rfl, rfl⟩
        rw [List.length_map, List.length_range]
        exact ws_ret (ev_v 2) (.inl rfl)
theorem d_lfree (c : Gd G) : DefG G "_law_free" 5 (spD G.K spLFree) :=
  c.df 53 (ps := ["_law_factors"]) rfl rfl (fun _ _ _ _ _ _ us hl => match us, hl with | [_], _ => rfl) fun f fd F =>
    fn_dat F (N := ["_law_factors", "_law_standing"]) (fnsc (by kernel_rfl)) (fun ds d ⟨_, _, e, _⟩ => by rw [e]; rfl) fun i ds d hn hr ⟨fs, h, e1, e2⟩ => by
      subst e1 e2
      have hl := h.1
      have h16 : 2 ^ fs.length ≤ 16 := Nat.pow_le_pow_right (n := 2) (by decide) hl
      refine ws_ret (μ' := []) (ev_is (ev_tupleL sl_l (c.fr 79) (ev_lcMap (l := List.range (2 ^ fs.length)) (g := natD) (f := fun s => pp (wP fs s (1, 1) fs.length)) (j := 1) rfl hn (evi_n1 (c.fr 83) (by omega) (ev_shlN (by omega) ev_int (ev_is (ev_len sq_l (c.fr 80) (ev_v 0)) (by rw [List.length_map]; rfl)))) (by rw [List.length_range]; exact Nat.le_trans h16 (by decide)) fun u hu b => ev_call (d_lproduct c) hr (evd_cons (ev_v 0) (evd_cons (ev_v 1) evd_nil)) ⟨fs, u, h, rfl, rfl⟩)) ?_) (.inl rfl)
      unfold carD freeW
      rw [List.map_map]
      rfl
end
end Gu
end
section
set_option Elab.async false
set_option linter.all false
set_option maxRecDepth 100000
set_option maxHeartbeats 4000000
set_option exponentiation.threshold 20000
namespace Gu
open PySem PySem.Spec PyProof.Rows L2
theorem dqL_nats {K : PySem.W.Frag} {D : Hp} : ∀ l : List Nat, DqL K D (l.map fun i => V.int (0 + (i : Nat))) (l.map natD)
  | [] => .nil
  | n :: l => .cons (by show Dq K D (V.int (0 + (n : Nat))) (natD n); rw [Int.zero_add]; exact .int _) (dqL_nats l)
theorem ev_listRg {X : Cx} {ρ : List Slot} {μ μ1 : Mem} {a : Expr} {n : Nat} {p p2 pos pos2 : Pos} (hc : X.calm = true) (hm : X.mg "list" = none) (hm2 : X.mg "range" = none) (hn : n ≤ 100000) (ha : Ev X ρ μ a (.dat (natD n)) μ1) (hg : Gl X "list" := by rfl) (hg2 : Gl X "range" := by rfl)
    (na : starEach [a] X.env = (false, eval a X.env) :: starEach [] X.env := by rfl) (nb : starEach [.Call (.Name "range" p2) [a] [] pos2] X.env = (false, eval (.Call (.Name "range" p2) [a] [] pos2) X.env) :: starEach [] X.env := by rfl) :
    Ev X ρ μ (.Call (.Name "list" p) [.Call (.Name "range" p2) [a] [] pos2] [] pos) (.dat (.list ((List.range n).map natD))) μ1 := ⟨fun F as σ D H Q R q =>
  WE.of (pe_listRg hc hg hm (prg_1 hg2 hm2 peW na) nb) (ha F as σ D H _ R fun v m D1 H1 e1 R1 k => by
    cases k
    refine ⟨(n : Nat), rfl, RgOk.of_le (by decide) (by omega) (by decide) (by omega), fun x hx => ?_⟩
    have e : rgV 0 (n : Nat) = (List.range n).map fun i => V.int (0 + (i : Nat)) := by
      unfold rgV
      rw [Int.sub_zero, Int.toNat_natCast]
    rw [e]
    exact (q.after e1).lst R1 (dqL_nats _) hx)⟩
def spLaps (ns : List Int) (ds : List PyData) (d : PyData) : Prop := ns.length ≤ 100 ∧ ds = [.int 3] ∧ d = .list ((List.range (max 2 (min ns.length 3))).map natD)
def pairF (v : V3) (n : Nat) : (Nat × Nat) × V3 := (((sip v n).1, ((sip v n).1 + 1 + (sip (sip v n).2 (n - 1)).1) % n), (sip (sip v n).2 (n - 1)).2)
def spSeatPair (ms ds : List PyData) (d : PyData) (ms' : List PyData) : Prop := ∃ (v : V3) (n : Nat), 2 ≤ n ∧ n ≤ 100 ∧ ms = vD v ∧ ds = [natD n] ∧ d = npD (pairF v n).1 ∧ ms' = vD (pairF v n).2
section
variable {G : Gv}
theorem d_llaps (c : Gd G) : DefG G "_law_laps" 1 (spS G.K spLaps) :=
  c.df 62 (ps := ["_law_script", "_law_most"]) rfl rfl (fun _ _ _ _ _ _ us hl => match us, hl with | [_, _], _ => rfl) fun f fd F =>
    fn_scr F (N := ["_law_script", "_law_most"]) (fnsc (by kernel_rfl)) (fun ns ds d ⟨_, e, _⟩ => by rw [e]; rfl) fun i ns ds d hn hr ⟨hl, e1, e2⟩ => by
      subst e1 e2
      have e : (if (if ((3 : Int)) < (ns.length : Nat) then (3 : Int) else (ns.length : Nat)) > 2 then (if ((3 : Int)) < (ns.length : Nat) then (3 : Int) else (ns.length : Nat)) else 2) = ((max 2 (min ns.length 3) : Nat) : Int) := by
        split <;> split <;> omega
      refine ws_ret (s := .dat (.list ((List.range (max 2 (min ns.length 3))).map natD))) (ev_listRg rfl (c.fr 85) (c.fr 83) (by omega) (ev_is (ev_max rfl (c.fr 89) ev_int (ev_min rfl (c.fr 90) (ev_len sq_s (c.fr 80) (ev_v 0)) (ev_v 1))) ?_)) rfl
      rw [List.length_map]
      exact congrArg (fun z => Slot.dat (.int z)) e
theorem d_lpair (c : Gd G) : DefG G "_law_seat_pair" 2 (spV G.K spSeatPair) :=
  c.df 63 (ps := ["_law_vat_here", "_law_seats"]) rfl rfl (fun _ _ _ _ _ _ us hl => match us, hl with | [_, _], _ => rfl) fun f fd F =>
    fn_vat F (N := ["_law_vat_here", "_law_seats", "_law_one"]) (fnsc (by kernel_rfl)) (fun ms ds d ms' ⟨_, _, _, _, _, e, _⟩ => by rw [e]; rfl) fun i ms ds d ms' hn hr ⟨v, n, h2, h100, e0, e1, e2, e3⟩ => by
      subst e0 e1 e2 e3
      refine ws_set (i := 2) (ev_callV (j := 0) (ms' := vD (sip v n).2) (d := natD (sip v n).1) (μ' := [vD v]) (ds := [natD n]) (d_lsip c) hr (eva_cons (ev_v 0) (eva_cons (ev_v 1) eva_nil)) rfl ⟨v, n, by omega, by omega, rfl, rfl, rfl, rfl⟩) ?_ hn
      have e : (((sip v n).1 : Nat) + 1 + ((sip (sip v n).2 (n - 1)).1 : Nat) : Int) % ((n : Nat) : Int) = (((sip v n).1 + 1 + (sip (sip v n).2 (n - 1)).1) % n : Nat) := by
        simp
      refine ws_ret (s := .dat (npD (pairF v n).1)) (μ' := [vD (pairF v n).2]) (ev_tup (evd_cons (ev_v 2) (evd_cons (ev_is (ev_mod (j := (n : Nat)) (by omega) (ev_intC (c.fr 77) (ev_add (ev_add (ev_v 2) ev_int) (ev_callV (j := 0) (ms' := vD (sip (sip v n).2 (n - 1)).2) (d := natD (sip (sip v n).2 (n - 1)).1) (μ' := [vD (sip v n).2]) (ds := [natD (n - 1)]) (d_lsip c) hr (eva_cons (ev_v 0) (eva_cons (ev_is (ev_sub (ev_v 1) ev_int) ?_) eva_nil)) rfl ⟨_, n - 1, by omega, by omega, rfl, rfl, rfl, rfl⟩))) (ev_v 1)) (congrArg (fun z => Slot.dat (.int z)) e)) evd_nil))) ⟨rfl, rfl⟩
      unfold natD
      exact congrArg (fun z => Slot.dat (.int z)) (by omega)
end
end Gu
end
section
set_option Elab.async false
set_option linter.all false
set_option maxRecDepth 100000
set_option maxHeartbeats 4000000
set_option exponentiation.threshold 20000
namespace Gu
open PySem PySem.Spec PyProof.Rows L2
section
variable {G : Gv}
theorem d_ldose (c : Gd G) : DefG G "_law_dose" 4 (spV G.K spDose) :=
  c.df 49 (ps := ["_law_vat_here"]) rfl rfl (fun _ _ _ _ _ _ us hl => match us, hl with | [_], _ => rfl) fun f fd F =>
    fn_vat F (N := ["_law_vat_here", "_law_way"]) (fnsc (by kernel_rfl)) (fun ms ds d ms' ⟨_, _, e, _⟩ => by rw [e]; rfl) fun i ms ds d ms' hn hr ⟨v, e0, e1, e2, e3⟩ => by
      subst e0 e1 e2 e3
      have s9 := sip_lt (sip v 8).2 (z := 9) (by decide)
      refine ws_set (i := 1) (ev_callV (j := 0) (ms' := vD (sip v 8).2) (d := natD (sip v 8).1) (μ' := [vD v]) (ds := [natD 8]) (d_lsip c) (hr.mono (by decide)) (eva_cons (ev_v 0) (eva_cons ev_int eva_nil)) rfl ⟨v, 8, by decide, by decide, rfl, rfl, rfl, rfl⟩) ?_ hn
      have pw : ∀ {X : Cx}, PyData.int ((10 : Int) ^ (1 + (sip (sip v 8).2 9).1)) = .int (10 ^ (1 + (sip (sip v 8).2 9).1)) := fun {_} => rfl
      refine ws_ifr (k := decide ((sip v 8).1 = 0)) (evt_is (evt_eq (i := ((sip v 8).1 : Nat)) (j := 0) (ev_v 1) ev_int) (by rw [Bool.eq_iff_iff]; simp only [decide_eq_true_eq]; omega)) (fun hk => ?_) fun hk => ?_
      · have h0 := of_decide_eq_true hk
        have e : doseF v = ((10 ^ (1 + (sip (sip v 8).2 9).1), 1), (sip (sip v 8).2 9).2) := by
          unfold doseF
          rw [if_pos h0]
        rw [e]
        exact ws_ret (s := .dat (pp (10 ^ (1 + (sip (sip v 8).2 9).1), 1))) (μ' := [vD (sip (sip v 8).2 9).2]) (ev_tup (evd_cons (ev_call (d_lpower c) (hr.mono (by decide)) (evd_cons ev_int (evd_cons (ev_is (ev_add ev_int (ev_callV (j := 0) (ms' := vD (sip (sip v 8).2 9).2) (d := natD (sip (sip v 8).2 9).1) (μ' := [vD (sip v 8).2]) (ds := [natD 9]) (d_lsip c) (hr.mono (by decide)) (eva_cons (ev_v 0) (eva_cons ev_int eva_nil)) rfl ⟨_, 9, by decide, by decide, rfl, rfl, rfl, rfl⟩)) (congrArg Slot.dat (natD_add 1 _))) evd_nil)) ⟨10, 1 + (sip (sip v 8).2 9).1, by decide, by omega, rfl, rfl⟩) (evd_cons ev_int evd_nil))) ⟨rfl, rfl⟩
      · have h0 : ¬ (sip v 8).1 = 0 := of_decide_eq_false hk
        refine ws_ifr (k := decide ((sip v 8).1 = 1)) (evt_is (evt_eq (i := ((sip v 8).1 : Nat)) (j := 1) (ev_v 1) ev_int) (by rw [Bool.eq_iff_iff]; simp only [decide_eq_true_eq]; omega)) (fun hk => ?_) fun hk => ?_
        · have h1 := of_decide_eq_true hk
          have e : doseF v = ((1, 10 ^ (1 + (sip (sip v 8).2 9).1)), (sip (sip v 8).2 9).2) := by
            unfold doseF
            rw [if_neg h0, if_pos h1]
          rw [e]
          exact ws_ret (s := .dat (pp (1, 10 ^ (1 + (sip (sip v 8).2 9).1)))) (μ' := [vD (sip (sip v 8).2 9).2]) (ev_tup (evd_cons ev_int (evd_cons (ev_call (d_lpower c) (hr.mono (by decide)) (evd_cons ev_int (evd_cons (ev_is (ev_add ev_int (ev_callV (j := 0) (ms' := vD (sip (sip v 8).2 9).2) (d := natD (sip (sip v 8).2 9).1) (μ' := [vD (sip v 8).2]) (ds := [natD 9]) (d_lsip c) (hr.mono (by decide)) (eva_cons (ev_v 0) (eva_cons ev_int eva_nil)) rfl ⟨_, 9, by decide, by decide, rfl, rfl, rfl, rfl⟩)) (congrArg Slot.dat (natD_add 1 _))) evd_nil)) ⟨10, 1 + (sip (sip v 8).2 9).1, by decide, by omega, rfl, rfl⟩) evd_nil))) ⟨rfl, rfl⟩
        · have h1 : ¬ (sip v 8).1 = 1 := of_decide_eq_false hk
          have e : doseF v = someF (ofN (sip v 8).2 [3, 6, 20, 97]).2 (ofN (sip v 8).2 [3, 6, 20, 97]).1 := by
            unfold doseF
            rw [if_neg h0, if_neg h1]
          rw [e]
          have z := ofN_mem (v := (sip v 8).2) (l := [3, 6, 20, 97]) (by decide)
          simp only [List.mem_cons, List.not_mem_nil, or_false] at z
          exact ws_ret (s := .dat (pp (someF (ofN (sip v 8).2 [3, 6, 20, 97]).2 (ofN (sip v 8).2 [3, 6, 20, 97]).1).1)) (μ' := [vD (someF (ofN (sip v 8).2 [3, 6, 20, 97]).2 (ofN (sip v 8).2 [3, 6, 20, 97]).1).2]) (ev_callV (j := 0) (ms' := vD (someF (ofN (sip v 8).2 [3, 6, 20, 97]).2 (ofN (sip v 8).2 [3, 6, 20, 97]).1).2) (μ' := [vD (ofN (sip v 8).2 [3, 6, 20, 97]).2]) (ds := [natD (ofN (sip v 8).2 [3, 6, 20, 97]).1]) (d_lsome c) hr (eva_cons (ev_v 0) (eva_cons (ev_callV (j := 0) (ms' := vD (ofN (sip v 8).2 [3, 6, 20, 97]).2) (μ' := [vD (sip v 8).2]) (ds := [.list ([3, 6, 20, 97].map natD)]) (d_lof c) (hr.mono (by decide)) (eva_cons (ev_v 0) (eva_cons (ev_lst (evd_cons ev_int (evd_cons ev_int (evd_cons ev_int (evd_cons ev_int evd_nil))))) eva_nil)) rfl (spOf_map (u := 1) (by decide) (by decide))) eva_nil)) rfl ⟨_, _, by omega, by omega, rfl, rfl, rfl, rfl⟩) ⟨rfl, rfl⟩
end
end Gu
end
section
set_option Elab.async false
set_option linter.all false
set_option maxRecDepth 100000
set_option maxHeartbeats 4000000
set_option exponentiation.threshold 20000
namespace Gu
open PySem PySem.Spec PyProof.Rows L2
def knotA (ws : List (Int × Int)) (i j : Nat) (by_ : Int × Int) (s : Nat) : Int × Int := if (s.testBit i && s.testBit j) = true then timesP (at1 ws s) by_ else at1 ws s
def knotF (ws : List (Int × Int)) (i j : Nat) (by_ : Int × Int) : List (Int × Int) := (List.range ws.length).map (knotA ws i j by_)
def spKnot (ds : List PyData) (d : PyData) : Prop := ∃ (ws : List (Int × Int)) (i j : Nat) (q : Int × Int), ws.length ≤ 16 ∧ (∀ p ∈ ws, Szp 300 p) ∧ Szp 300 q ∧ i ≤ 100 ∧ j ≤ 100 ∧ ds = [carD ws, natD i, natD j, pp q] ∧ d = carD (knotF ws i j q)
section
variable {G : Gv}
theorem d_lknot (c : Gd G) : DefG G "_law_knot" 4 (spD G.K spKnot) :=
  c.df 54 (ps := ["_law_weights", "_law_one", "_law_two", "_law_by"]) rfl rfl (fun _ _ _ _ _ _ us hl => match us, hl with | [_, _, _, _], _ => rfl) fun f fd F =>
    fn_dat F (N := ["_law_weights", "_law_one", "_law_two", "_law_by", "_law_found", "_law_standing", "_law_both_here"]) (fnsc (by kernel_rfl)) (fun ds d ⟨_, _, _, _, _, _, _, _, _, e, _⟩ => by rw [e]; rfl) fun i ds d hn hr ⟨ws, i, j, q, hl, hw, hq, hi, hj, e1, e2⟩ => by
      subst e1 e2
      refine ws_set (i := 4) (ev_lstM evd_nil) ?_ hn
      refine ws_forN (I := fun k ρ μ => ∃ a b, μ = [((knotF ws i j q).take k).map pp] ∧ ρ = [.dat (carD ws), .dat (natD i), .dat (natD j), .dat (pp q), .mut 0, a, b]) 5 bX_own rfl hn (evi_n1 (n := ws.length) (c.fr 83) (by omega) (ev_is (ev_len sq_t (c.fr 80) (ev_v 0)) (by rw [List.length_map]))) ⟨.un, .un, rfl, rfl⟩ ?_ ?_
      · rintro k d ρ μ hd ⟨a, b, rfl, rfl⟩
        obtain ⟨u, hu, rfl⟩ := map_inv hd
        obtain ⟨rfl, hul⟩ := range_inv hu
        refine ws_set (i := 6) (s := .dat (.bool (u.testBit i && u.testBit j))) (ev_and' (ev_call (d_lhas c) (hr.mono (by decide)) (evd_cons (ev_v 5) (evd_cons (ev_v 1) evd_nil)) ⟨u, i, hi, rfl, rfl⟩) fun _ => ev_one (ev_call (d_lhas c) (hr.mono (by decide)) (evd_cons (ev_v 5) (evd_cons (ev_v 2) evd_nil)) ⟨u, j, hj, rfl, rfl⟩)) ?_ hn
        refine ws_append (d := pp (knotA ws i j q u)) (ds := ((knotF ws i j q).take u).map pp) (μ2 := [((knotF ws i j q).take u).map pp]) (ev_v 4) (ev_if (k := u.testBit i && u.testBit j) (evt_val (ev_v 6)) (fun hb => ?_) fun hb => ?_) rfl ?_ (ws_nil ⟨.dat (natD u), _, ?_, rfl⟩)
        · have e : knotA ws i j q u = timesP (at1 ws u) q := by
            unfold knotA
            rw [if_pos hb]
          rw [e]
          exact ev_call (d_lmul c) hr (evd_cons (ev_ixK (g := pp) sq_t (ev_v 0) (ev_v 5) (at1_some hul)) (evd_cons (ev_v 3) evd_nil)) ⟨_, _, (hw _ (at1_mem hul)).ok (by decide), hq.ok (by decide), rfl, rfl⟩
        · have e : knotA ws i j q u = at1 ws u := by
            unfold knotA
            rw [if_neg (by rw [hb]; exact Bool.false_ne_true)]
          rw [e]
          exact ev_ixK (g := pp) sq_t (ev_v 0) (ev_v 5) (at1_some hul)
        · rw [List.length_map, List.length_take]
          exact Nat.le_trans (Nat.min_le_left _ _) (show u ≤ 100000 by omega)
        · have ek : (knotF ws i j q)[u]? = some (knotA ws i j q u) := by
            unfold knotF
            rw [List.getElem?_map, List.getElem?_range hul]
            rfl
          rw [List.take_add_one, ek, List.map_append]
          rfl
      · rintro ρ μ ⟨a, b, rfl, rfl⟩
        refine ws_ret (ev_tupleL (sl_m rfl) (c.fr 79) (ev_v 4)) (.inl ?_)
        rw [List.length_map, List.length_range, List.take_of_length_le (by unfold knotF; rw [List.length_map, List.length_range]; exact Nat.le_refl _)]
        rfl
end
end Gu
end
section
set_option Elab.async false
set_option linter.all false
set_option maxRecDepth 100000
set_option maxHeartbeats 4000000
set_option exponentiation.threshold 20000
namespace Gu
open PySem PySem.Spec PyProof.Rows L2
/-- n draws, one behind another -/
def stS (f : V3 → (Int × Int) × V3) (v : V3) : Nat → V3
  | 0 => v
  | k + 1 => (f (stS f v k)).2
def stF (f : V3 → (Int × Int) × V3) (v : V3) (n : Nat) : List (Int × Int) := (List.range n).map fun k => (f (stS f v k)).1
theorem picked_true {g : Nat → PyData} {n : Nat} : picked (fun _ => true) g n = (List.range n).map g := by
  unfold picked
  rw [List.filter_eq_self.mpr fun _ _ => rfl]
def spOwns (ms ds : List PyData) (d : PyData) (ms' : List PyData) : Prop := ∃ (v : V3) (n : Nat), n ≤ 100 ∧ ms = vD v ∧ ds = [natD n] ∧ d = StrD (stF doseF v n) ∧ ms' = vD (stS doseF v n)
section
variable {G : Gv}
theorem d_lowns (c : Gd G) : DefG G "_law_owns" 5 (spV G.K spOwns) :=
  c.df 66 (ps := ["_law_vat_here", "_law_seats"]) rfl rfl (fun _ _ _ _ _ _ us hl => match us, hl with | [_, _], _ => rfl) fun f fd F =>
    fn_vat F (N := ["_law_vat_here", "_law_seats", "_law_seat"]) (fnsc (by kernel_rfl)) (fun ms ds d ms' ⟨_, _, _, _, e, _⟩ => by rw [e]; rfl) fun i ms ds d ms' hn hr ⟨v, n, h, e0, e1, e2, e3⟩ => by
      subst e0 e1 e2 e3
      refine ws_ret (s := .dat (StrD (stF doseF v n))) (μ' := [vD (stS doseF v n)]) (ev_is (ev_tupleL sl_l (c.fr 79) (ev_lc (n := n) (j := 2) (M := fun k => [vD (stS doseF v k)]) (keep := fun _ => true) (val := fun k => pp (doseF (stS doseF v k)).1) rfl hn (evi_n1 (n := n) (c.fr 83) (by omega) (ev_v 1)) (by rw [List.length_map, List.length_range]) (Nat.le_trans h (by decide)) (fun k d hd => ?_) (hj := Nat.lt_of_sub_eq_succ rfl))) ?_) ⟨rfl, rfl⟩
      · exact ⟨_, fun b => evf_nil, (fun z => Bool.noConfusion z), fun _ b => ev_callV (j := 0) (ms' := vD (stS doseF v (k + 1))) (d := pp (doseF (stS doseF v k)).1) (μ' := [vD (stS doseF v k)]) (ds := []) (d_ldose c) hr (eva_cons (ev_v 0) eva_nil) rfl ⟨_, rfl, rfl, rfl, rfl⟩⟩
      · rw [picked_true]
        unfold StrD stF
        rw [List.map_map]
        rfl
end
end Gu
end
section
set_option Elab.async false
set_option linter.all false
set_option maxRecDepth 100000
set_option maxHeartbeats 4000000
set_option exponentiation.threshold 20000
namespace Gu
open PySem PySem.Spec PyProof.Rows L2
abbrev KS := List (Int × Int) × V3
def kStep (l : List (Int × Int)) (st : KS) (i j : Nat) : KS :=
  if (sip st.2 2).1 = 0 then (knotF st.1 i j (ofP (sip st.2 2).2 l).1, (ofP (sip st.2 2).2 l).2) else (st.1, (sip st.2 2).2)
def kRow (l : List (Int × Int)) (i : Nat) (st : KS) : Nat → KS
  | 0 => st
  | k + 1 => kStep l (kRow l i st k) i (i + 1 + k)
def kAll (l : List (Int × Int)) (n : Nat) (st : KS) : Nat → KS
  | 0 => st
  | i + 1 => kRow l i (kAll l n st i) (n - (i + 1))
theorem knotF_len (ws : List (Int × Int)) (i j : Nat) (q : Int × Int) : (knotF ws i j q).length = ws.length := by
  unfold knotF
  rw [List.length_map, List.length_range]
/-- positive, no part above M -/
def Lep (M : Nat) (p : Int × Int) : Prop := 0 < p.1 ∧ 0 < p.2 ∧ p.1 ≤ (M : Nat) ∧ p.2 ≤ (M : Nat)
theorem Lep.mul {M N : Nat} {a b : Int × Int} (h : Lep M a) (k : Lep N b) : Lep (M * N) (timesP a b) := by
  obtain ⟨h1, h2, h3, h4⟩ := h
  obtain ⟨k1, k2, k3, k4⟩ := k
  have p := Int.mul_pos h2 k2
  have q := times_pos h1 k1 h2 k2
  have r := nrm_pos (a := a.1 * b.1) p
  have z1 := nrm_le1 (a := a.1 * b.1) p
  have z2 := nrm_le2 (a := a.1 * b.1) p
  have m1 : a.1 * b.1 ≤ ((M * N : Nat) : Int) := by
    rw [Int.natCast_mul]
    exact Int.mul_le_mul h3 k3 (by omega) (by omega)
  have m2 : a.2 * b.2 ≤ ((M * N : Nat) : Int) := by
    rw [Int.natCast_mul]
    exact Int.mul_le_mul h4 k4 (by omega) (by omega)
  have w := Int.mul_pos h1 k1
  unfold timesP at *
  exact ⟨q, r, by omega, by omega⟩
theorem Lep.up {M N : Nat} {a : Int × Int} (h : Lep M a) (k : M ≤ N) : Lep N a := ⟨h.1, h.2.1, by have := h.2.2.1; omega, by have := h.2.2.2; omega⟩
theorem Lep.szp {M B : Nat} {a : Int × Int} (h : Lep M a) (k : M < 2 ^ B) : Szp B a := ⟨h.2.1, by have := h.2.2.1; have := h.1; omega, by have := h.2.2.2; have := h.2.1; omega⟩
theorem one_lep : Lep 1 (1, 1) := ⟨by decide, by decide, by decide, by decide⟩
theorem ofP_mem {v : V3} {l : List (Int × Int)} (h : 0 < l.length) : (ofP v l).1 ∈ l := by
  have hs := sip_lt v h
  unfold ofP
  show l.getD _ (1, 1) ∈ l
  rw [List.getD_eq_getElem?_getD, List.getElem?_eq_getElem hs]
  exact List.getElem_mem hs
def allLep (A : Nat) (ws : List (Int × Int)) : Prop := ∀ p ∈ ws, Lep A p
theorem knot_lep {A N : Nat} {ws : List (Int × Int)} {i j : Nat} {q : Int × Int} (h : allLep A ws) (k : Lep N q) (hN : 1 ≤ N) : allLep (A * N) (knotF ws i j q) := by
  intro p hp
  obtain ⟨s, hs, rfl⟩ := List.mem_map.mp hp
  have hm := at1_mem (List.mem_range.mp hs)
  unfold knotA
  split
  · exact (h _ hm).mul k
  · exact (h _ hm).up (Nat.le_mul_of_pos_right _ hN)
theorem kStep_lep {A N : Nat} {l : List (Int × Int)} {st : KS} {i j : Nat} (h : allLep A st.1) (hl : allLep N l) (h0 : 0 < l.length) (hN : 1 ≤ N) : allLep (A * N) (kStep l st i j).1 ∧ (kStep l st i j).1.length = st.1.length := by
  unfold kStep
  split
  · exact ⟨knot_lep h (hl _ (ofP_mem h0)) hN, knotF_len _ _ _ _⟩
  · exact ⟨fun p hp => (h p hp).up (Nat.le_mul_of_pos_right _ hN), rfl⟩
theorem kRow_lep {A N : Nat} {l : List (Int × Int)} {st : KS} {i : Nat} (h : allLep A st.1) (hl : allLep N l) (h0 : 0 < l.length) (hN : 1 ≤ N) : ∀ k, allLep (A * N ^ k) (kRow l i st k).1 ∧ (kRow l i st k).1.length = st.1.length
  | 0 => ⟨by rw [Nat.pow_zero, Nat.mul_one]; exact h, rfl⟩
  | k + 1 => by
    obtain ⟨h1, h2⟩ := kRow_lep (i := i) h hl h0 hN k
    obtain ⟨h3, h4⟩ := kStep_lep (i := i) (j := i + 1 + k) h1 hl h0 hN
    rw [Nat.pow_succ, ← Nat.mul_assoc]
    exact ⟨h3, h4.trans h2⟩
/-- pairs passed ahead of row i -/
def cntP (n : Nat) : Nat → Nat
  | 0 => 0
  | i + 1 => cntP n i + (n - (i + 1))
theorem kAll_lep {A N n : Nat} {l : List (Int × Int)} {st : KS} (h : allLep A st.1) (hl : allLep N l) (h0 : 0 < l.length) (hN : 1 ≤ N) : ∀ i, allLep (A * N ^ cntP n i) (kAll l n st i).1 ∧ (kAll l n st i).1.length = st.1.length
  | 0 => ⟨by unfold cntP; rw [Nat.pow_zero, Nat.mul_one]; exact h, rfl⟩
  | i + 1 => by
    obtain ⟨h1, h2⟩ := kAll_lep (n := n) h hl h0 hN i
    obtain ⟨h3, h4⟩ := kRow_lep (i := i) h1 hl h0 hN (n - (i + 1))
    unfold cntP
    rw [Nat.pow_add, ← Nat.mul_assoc]
    exact ⟨h3, h4.trans h2⟩
end Gu
end
section
set_option Elab.async false
set_option linter.all false
set_option maxRecDepth 100000
set_option maxHeartbeats 4000000
set_option exponentiation.threshold 20000
namespace Gu
open PySem PySem.Spec PyProof.Rows L2
def spKnots (ms ds : List PyData) (d : PyData) (ms' : List PyData) : Prop := ∃ (v : V3) (ws : List (Int × Int)) (n A : Nat) (l : List (Int × Int)), Car ws n ∧ allLep A ws ∧ A ≤ 2 ^ 40 ∧ allLep 9 l ∧ 0 < l.length ∧ l.length ≤ 100 ∧
  ms = vD v ∧ ds = [carD ws, .list (l.map pp)] ∧ d = carD (kAll l n (ws, v) n).1 ∧ ms' = vD (kAll l n (ws, v) n).2
theorem cnt_le {n : Nat} (h : n ≤ 4) : ∀ i, i ≤ n → cntP n i ≤ 6 := by
  have e : n = 0 ∨ n = 1 ∨ n = 2 ∨ n = 3 ∨ n = 4 := by omega
  rcases e with rfl | rfl | rfl | rfl | rfl <;> decide
theorem lep_big {A k : Nat} {p : Int × Int} (h : Lep (A * 9 ^ k) p) (hA : A ≤ 2 ^ 40) (hk : k ≤ 20) : Szp 300 p := by
  refine h.szp ?_
  have h1 : 9 ^ k ≤ 9 ^ 20 := Nat.pow_le_pow_right (by decide) hk
  have h2 : A * 9 ^ k ≤ 2 ^ 40 * 9 ^ 20 := Nat.mul_le_mul hA h1
  exact Nat.lt_of_le_of_lt h2 (by decide)
section
variable {G : Gv}
theorem d_lknots (c : Gd G) : DefG G "_law_knots" 5 (spV G.K spKnots) :=
  c.df 55 (ps := ["_law_vat_here", "_law_weights", "_law_some_here"]) rfl rfl (fun _ _ _ _ _ _ us hl => match us, hl with | [_, _, _], _ => rfl) fun f fd F =>
    fn_vat F (N := ["_law_vat_here", "_law_weights", "_law_some_here", "_law_seats", "_law_one", "_law_two"]) (fnsc (by kernel_rfl)) (fun ms ds d ms' ⟨_, _, _, _, _, _, _, _, _, _, _, _, e, _⟩ => by rw [e]; rfl) fun i ms ds d ms' hn hr ⟨v, ws, n, A, l, h, hA, hA2, hl, l0, l1, e0, e1, e2, e3⟩ => by
      subst e0 e1 e2 e3
      have h4 := h.n4
      have l16 := h.len16
      refine ws_set (i := 3) (ev_call (d_lcount c) (hr.mono (by decide)) (evd_cons (ev_v 1) evd_nil) ⟨ws, n, h, rfl, rfl⟩) ?_ hn
      refine ws_forN (I := fun i ρ μ => ∃ a b, μ = [vD (kAll l n (ws, v) i).2] ∧ ρ = [.mut 0, .dat (carD (kAll l n (ws, v) i).1), .dat (.list (l.map pp)), .dat (natD n), a, b]) 4 bX_own rfl hn (evi_n1 (n := n) (c.fr 83) (by omega) (ev_v 3)) ⟨.un, .un, rfl, rfl⟩ ?_ ?_
      · rintro i d ρ μ hd ⟨a, b, rfl, rfl⟩
        obtain ⟨u, hu, rfl⟩ := map_inv hd
        obtain ⟨rfl, hun⟩ := range_inv hu
        obtain ⟨g1, g2⟩ := kAll_lep (st := (ws, v)) (n := n) hA hl l0 (by decide) u
        refine ws_forN (I := fun k ρ μ => ∃ b, μ = [vD (kRow l u (kAll l n (ws, v) u) k).2] ∧ ρ = [.mut 0, .dat (carD (kRow l u (kAll l n (ws, v) u) k).1), .dat (.list (l.map pp)), .dat (natD n), .dat (natD u), b]) 5 bX_own rfl hn (evi_n2 (l := u + 1) (n := n) (c.fr 83) (by omega) (by omega) (ev_is (ev_add (ev_v 4) ev_int) rfl) (ev_v 3)) ⟨b, rfl, rfl⟩ ?_ ?_
        · rintro k d ρ μ hd ⟨b, rfl, rfl⟩
          obtain ⟨w, hw, rfl⟩ := map_inv hd
          obtain ⟨rfl, hwn⟩ := range_inv hw
          obtain ⟨g3, g4⟩ := kRow_lep (i := u) g1 hl l0 (by decide) w
          have cn := cnt_le h4 u (by omega)
          have esl : ∀ p ∈ (kRow l u (kAll l n (ws, v) u) w).1, Szp 300 p := fun p hp => by
            have z := g3 p hp
            rw [Nat.mul_assoc, ← Nat.pow_add] at z
            exact lep_big z hA2 (by omega)
          have es : kRow l u (kAll l n (ws, v) u) (w + 1) = kStep l (kRow l u (kAll l n (ws, v) u) w) u (u + 1 + w) := rfl
          generalize kRow l u (kAll l n (ws, v) u) w = st at *
          obtain ⟨ws', v'⟩ := st
          refine ws_if (k := decide ((sip v' 2).1 = 0)) (μ1 := [vD (sip v' 2).2]) (evt_is (evt_eq (i := ((sip v' 2).1 : Nat)) (j := 0) (ev_callV (j := 0) (ms' := vD (sip v' 2).2) (d := natD (sip v' 2).1) (μ' := [vD v']) (ds := [natD 2]) (d_lsip c) (hr.mono (by decide)) (eva_cons (ev_v 0) (eva_cons ev_int eva_nil)) rfl ⟨v', 2, by decide, by decide, rfl, rfl, rfl, rfl⟩) ev_int) (by rw [Bool.eq_iff_iff]; simp only [decide_eq_true_eq]; omega)) (fun hk => ?_) fun hk => ?_
          · have h0 := of_decide_eq_true hk
            have e : kStep l (ws', v') u (u + 1 + w) = (knotF ws' u (u + 1 + w) (ofP (sip v' 2).2 l).1, (ofP (sip v' 2).2 l).2) := by
              unfold kStep
              rw [if_pos h0]
            refine ws_set (i := 1) (μ' := [vD (ofP (sip v' 2).2 l).2]) (ev_call (d_lknot c) hr (evd_cons (ev_v 1) (evd_cons (ev_v 4) (evd_cons (ev_v 5) (evd_cons (ev_callV (j := 0) (ms' := vD (ofP (sip v' 2).2 l).2) (d := pp (ofP (sip v' 2).2 l).1) (μ' := [vD (sip v' 2).2]) (ds := [.list (l.map pp)]) (d_lof c) (hr.mono (by decide)) (eva_cons (ev_v 0) (eva_cons (ev_v 2) eva_nil)) rfl (spOf_map (u := (1, 1)) l0 (by omega))) evd_nil)))) ⟨ws', u, u + 1 + w, (ofP (sip v' 2).2 l).1, ?_, esl, (hl _ (ofP_mem l0)).szp (by decide), by omega, by omega, rfl, rfl⟩) (ws_nil (ws_nil ⟨.dat (natD (u + 1 + w)), ?_, ?_⟩)) hn
            · have : ws'.length = ws.length := g4.trans g2
              omega
            · rw [es, e]
            · rw [es, e]
              rfl
          · have h0 : ¬ (sip v' 2).1 = 0 := of_decide_eq_false hk
            have e : kStep l (ws', v') u (u + 1 + w) = (ws', (sip v' 2).2) := by
              unfold kStep
              rw [if_neg h0]
            refine ws_nil (ws_nil ⟨.dat (natD (u + 1 + w)), ?_, ?_⟩)
            · rw [es, e]
            · rw [es, e]
              rfl
        · rintro ρ μ ⟨b, rfl, rfl⟩
          rw [List.length_map, List.length_range]
          exact ws_nil ⟨_, _, rfl, rfl⟩
      · rintro ρ μ ⟨a, b, rfl, rfl⟩
        rw [List.length_map, List.length_range]
        exact ws_ret (ev_v 1) ⟨rfl, rfl⟩
end
end Gu
end
section
set_option Elab.async false
set_option linter.all false
set_option maxRecDepth 100000
set_option maxHeartbeats 4000000
set_option exponentiation.threshold 20000
namespace Gu
open PySem PySem.Spec PyProof.Rows L2
def Red (p : Int × Int) : Prop := gc p.1 p.2 = 1
theorem nrm_red {a b : Int} (h : 0 < b) : Red (nrm a b) := by
  unfold Red gc
  rw [show Nat.gcd (nrm a b).1.natAbs (nrm a b).2.natAbs = 1 from nrm_cop h]
  rfl
theorem times_red {a b : Int × Int} (h : 0 < a.2) (k : 0 < b.2) : Red (timesP a b) := nrm_red (Int.mul_pos h k)
theorem one_red : Red (1, 1) := by unfold Red; decide
def Good (M : Nat) (p : Int × Int) : Prop := Lep M p ∧ Red p
theorem Good.up {M N : Nat} {p : Int × Int} (h : Good M p) (k : M ≤ N) : Good N p := ⟨h.1.up k, h.2⟩
structure Wts (M : Nat) (ws : List (Int × Int)) (n : Nat) : Prop where
  len : ws.length = 2 ^ n
  all : ∀ p ∈ ws, Good M p
  one : ws[0]? = some (1, 1)
theorem Wts.car {M n : Nat} {ws : List (Int × Int)} (h : Wts M ws n) (hM : M < 2 ^ 40) (h1 : 1 ≤ n) (h4 : n ≤ 4) : Car ws n :=
  ⟨h1, h4, h.len, fun p hp => ⟨(h.all p hp).1.1, (h.all p hp).2, (h.all p hp).1.szp hM⟩, h.one⟩
theorem someF_good {v : V3} {w : Nat} (h : 2 ≤ w) : Good w (someF v w).1 := by
  have x := sip_lt v (show 0 < w by omega)
  have q := ofN_mem (v := (sip v w).2) (l := [1, 1, 2, w]) (Nat.zero_lt_succ _)
  simp only [List.mem_cons, List.not_mem_nil, or_false] at q
  have y := sip_lt (ofN (sip v w).2 [1, 1, 2, w]).2 (z := (ofN (sip v w).2 [1, 1, 2, w]).1) (by omega)
  unfold someF
  generalize (sip (ofN (sip v w).2 [1, 1, 2, w]).2 (ofN (sip v w).2 [1, 1, 2, w]).1).1 = yy at *
  generalize (sip v w).1 = xx at *
  show Good w (nrm (1 + (xx : Nat)) (1 + (yy : Nat)))
  have p : (0 : Int) < 1 + (yy : Nat) := by omega
  have z1 := nrm_le1 (a := 1 + (xx : Nat)) p
  have z2 := nrm_le2 (a := 1 + (xx : Nat)) p
  have z3 := (nrm_sign (a := 1 + (xx : Nat)) p).2.mpr (by omega)
  have z4 := nrm_pos (a := 1 + (xx : Nat)) p
  exact ⟨⟨z3, z4, by omega, by omega⟩, nrm_red p⟩
/-- free ones -/
theorem wP_good {M : Nat} {fs : List (Int × Int)} {s : Nat} (hM : 1 ≤ M) (h : ∀ t ∈ fs, Good M t) : ∀ k, k ≤ fs.length → Good (M ^ k) (wP fs s (1, 1) k)
  | 0, _ => ⟨one_lep.up (by rw [Nat.pow_zero]; exact Nat.le_refl _), one_red⟩
  | k + 1, hk => by
    have ih := wP_good (s := s) hM h k (by omega)
    have t := h _ (at1_mem (show k < fs.length by omega))
    unfold wP
    split
    · rw [Nat.pow_succ]
      exact ⟨ih.1.mul t.1, times_red ih.1.2.1 t.1.2.1⟩
    · exact ih.up (Nat.pow_le_pow_right hM (by omega))
theorem wP_zero {fs : List (Int × Int)} : ∀ k, wP fs 0 (1, 1) k = (1, 1)
  | 0 => rfl
  | k + 1 => by
    show (if (0 : Nat).testBit k = true then _ else _) = _
    rw [Nat.zero_testBit]
    exact wP_zero k
theorem free_wts {M : Nat} {fs : List (Int × Int)} (hM : 1 ≤ M) (h : ∀ t ∈ fs, Good M t) : Wts (M ^ fs.length) (freeW fs) fs.length where
  len := by
    unfold freeW
    rw [List.length_map, List.length_range]
  all := fun p hp => by
    obtain ⟨s, _, rfl⟩ := List.mem_map.mp hp
    exact wP_good hM h _ (Nat.le_refl _)
  one := by
    unfold freeW
    rw [List.getElem?_map, List.getElem?_range (Nat.two_pow_pos _)]
    show some (wP fs 0 (1, 1) fs.length) = _
    rw [wP_zero]
theorem knot_wts {M N n i j : Nat} {ws : List (Int × Int)} {q : Int × Int} (h : Wts M ws n) (k : Lep N q) (hN : 1 ≤ N) : Wts (M * N) (knotF ws i j q) n where
  len := by rw [knotF_len]; exact h.len
  all := fun p hp => by
    refine ⟨knot_lep (fun p hp => (h.all p hp).1) k hN p hp, ?_⟩
    obtain ⟨s, hs, rfl⟩ := List.mem_map.mp hp
    have g := h.all _ (at1_mem (List.mem_range.mp hs))
    unfold knotA
    split
    · exact times_red g.1.2.1 k.2.1
    · exact g.2
  one := by
    unfold knotF
    rw [List.getElem?_map, List.getElem?_range (by rw [h.len]; exact Nat.two_pow_pos _)]
    show some (knotA ws i j q 0) = _
    unfold knotA
    rw [Nat.zero_testBit, Bool.false_and, if_neg Bool.false_ne_true, at1_of h.one]
theorem kStep_wts {M N n i j : Nat} {l : List (Int × Int)} {st : KS} (h : Wts M st.1 n) (hl : allLep N l) (h0 : 0 < l.length) (hN : 1 ≤ N) : Wts (M * N) (kStep l st i j).1 n := by
  unfold kStep
  split
  · exact knot_wts h (hl _ (ofP_mem h0)) hN
  · exact ⟨h.len, fun p hp => (h.all p hp).up (Nat.le_mul_of_pos_right _ hN), h.one⟩
theorem kRow_wts {M N n i : Nat} {l : List (Int × Int)} {st : KS} (h : Wts M st.1 n) (hl : allLep N l) (h0 : 0 < l.length) (hN : 1 ≤ N) : ∀ k, Wts (M * N ^ k) (kRow l i st k).1 n
  | 0 => by rw [Nat.pow_zero, Nat.mul_one]; exact h
  | k + 1 => by
    rw [Nat.pow_succ, ← Nat.mul_assoc]
    exact kStep_wts (kRow_wts h hl h0 hN k) hl h0 hN
theorem kAll_wts {M N n m : Nat} {l : List (Int × Int)} {st : KS} (h : Wts M st.1 n) (hl : allLep N l) (h0 : 0 < l.length) (hN : 1 ≤ N) : ∀ i, Wts (M * N ^ cntP m i) (kAll l m st i).1 n
  | 0 => by unfold cntP; rw [Nat.pow_zero, Nat.mul_one]; exact h
  | i + 1 => by
    unfold cntP
    rw [Nat.pow_add, ← Nat.mul_assoc]
    exact kRow_wts (kAll_wts h hl h0 hN i) hl h0 hN _
end Gu
end
section
set_option Elab.async false
set_option linter.all false
set_option maxRecDepth 100000
set_option maxHeartbeats 4000000
set_option exponentiation.threshold 20000
namespace Gu
open PySem PySem.Spec PyProof.Rows L2
/-- one great weight -/
def bmpA (v : V3) : V3 := (ofN v [5, 9, 50, 200]).2
def bmpB (v : V3) : V3 := (ofN (bmpA v) [1, 1, 7]).2
def bmpQ (v : V3) : Int × Int := (((ofN v [5, 9, 50, 200]).1 : Nat), ((ofN (bmpA v) [1, 1, 7]).1 : Nat))
def bmp (m : Nat) (st : KS) : KS := (st.1.set (1 + (sip (bmpB st.2) m).1) (bmpQ st.2), (sip (bmpB st.2) m).2)
def bmps (m : Nat) (st : KS) : Nat → KS
  | 0 => st
  | k + 1 => bmp m (bmps m st k)
theorem bmps_len (m : Nat) (st : KS) : ∀ k, (bmps m st k).1.length = st.1.length
  | 0 => rfl
  | k + 1 => by
    unfold bmps bmp
    rw [List.length_set]
    exact bmps_len m st k
theorem bmpQ_good (v : V3) : Good 200 (bmpQ v) := by
  have a := ofN_mem (v := v) (l := [5, 9, 50, 200]) (by decide)
  have b := ofN_mem (v := bmpA v) (l := [1, 1, 7]) (by decide)
  unfold bmpQ
  generalize (ofN v [5, 9, 50, 200]).1 = x at *
  generalize (ofN (bmpA v) [1, 1, 7]).1 = y at *
  simp only [List.mem_cons, List.not_mem_nil, or_false] at a b
  rcases a with rfl | rfl | rfl | rfl <;> rcases b with rfl | rfl | rfl <;> exact ⟨⟨by decide, by decide, by decide, by decide⟩, by unfold Red; decide⟩
theorem bmps_good {m : Nat} {st : KS} (h : ∀ p ∈ st.1, Good 200 p) : ∀ k, ∀ p ∈ (bmps m st k).1, Good 200 p
  | 0 => h
  | k + 1 => fun p hp => by
    unfold bmps bmp at hp
    rcases List.mem_or_eq_of_mem_set hp with q | q
    · exact bmps_good h k p q
    · rw [q]
      exact bmpQ_good _
def tieF (v : V3) : (Int × Int) × V3 := someF (ofN v [2, 4, 12]).2 (ofN v [2, 4, 12]).1
def tieL (way : Nat) : List (Int × Int) := if way = 4 then [(2, 1), (3, 1), (1, 1), (9, 2)] else [(1, 2), (2, 1), (1, 1), (1, 5)]
def benchF (v : V3) (n : Nat) : KS :=
  if (sip v 6).1 < 2 then
    ((1, 1) :: stF (fun u => someF u (ofN (sip v 6).2 [3, 6, 30]).1) (ofN (sip v 6).2 [3, 6, 30]).2 (2 ^ n - 1), stS (fun u => someF u (ofN (sip v 6).2 [3, 6, 30]).1) (ofN (sip v 6).2 [3, 6, 30]).2 (2 ^ n - 1))
  else if (sip v 6).1 = 2 then
    ((1, 1) :: (bmps (2 ^ n - 1) (List.replicate (2 ^ n) (1, 1), (sip (sip v 6).2 3).2) (1 + (sip (sip v 6).2 3).1)).1.drop 1, (bmps (2 ^ n - 1) (List.replicate (2 ^ n) (1, 1), (sip (sip v 6).2 3).2) (1 + (sip (sip v 6).2 3).1)).2)
  else if (sip v 6).1 = 3 then (freeW (stF tieF (sip v 6).2 n), stS tieF (sip v 6).2 n)
  else kAll (tieL (sip v 6).1) n (freeW (stF tieF (sip v 6).2 n), stS tieF (sip v 6).2 n) n
theorem stF_len (f : V3 → (Int × Int) × V3) (v : V3) (n : Nat) : (stF f v n).length = n := by
  unfold stF
  rw [List.length_map, List.length_range]
theorem stF_mem {f : V3 → (Int × Int) × V3} {v : V3} {n : Nat} {p : Int × Int} (h : p ∈ stF f v n) : ∃ u, p = (f u).1 := by
  obtain ⟨k, _, rfl⟩ := List.mem_map.mp h
  exact ⟨_, rfl⟩
theorem tieF_good (v : V3) : Good 12 (tieF v).1 := by
  have a := ofN_mem (v := v) (l := [2, 4, 12]) (by decide)
  unfold tieF
  generalize (ofN v [2, 4, 12]).1 = x at *
  simp only [List.mem_cons, List.not_mem_nil, or_false] at a
  rcases a with rfl | rfl | rfl
  · exact (someF_good (by decide)).up (by decide)
  · exact (someF_good (by decide)).up (by decide)
  · exact someF_good (by decide)
theorem tie_wts (v : V3) (n : Nat) : Wts (12 ^ n) (freeW (stF tieF v n)) n := by
  have z := free_wts (M := 12) (fs := stF tieF v n) (by decide) fun t ht => by
    obtain ⟨u, rfl⟩ := stF_mem ht
    exact tieF_good u
  rw [stF_len] at z
  exact z
theorem tieL_lep (way : Nat) : allLep 9 (tieL way) ∧ (tieL way).length = 4 := by
  unfold tieL
  split
  · refine ⟨fun p hp => ?_, rfl⟩
    simp only [List.mem_cons, List.not_mem_nil, or_false] at hp
    rcases hp with rfl | rfl | rfl | rfl <;> exact ⟨by decide, by decide, by decide, by decide⟩
  · refine ⟨fun p hp => ?_, rfl⟩
    simp only [List.mem_cons, List.not_mem_nil, or_false] at hp
    rcases hp with rfl | rfl | rfl | rfl <;> exact ⟨by decide, by decide, by decide, by decide⟩
theorem one_good : Good 1 (1, 1) := ⟨one_lep, one_red⟩
theorem pow12_le {n : Nat} (h : n ≤ 4) : 12 ^ n ≤ 2 ^ 20 := Nat.le_trans (Nat.pow_le_pow_right (by decide) h) (by decide)
theorem bench_car (v : V3) {n : Nat} (h1 : 1 ≤ n) (h4 : n ≤ 4) : Car (benchF v n).1 n := by
  have p1 : 1 ≤ 2 ^ n := Nat.two_pow_pos n
  unfold benchF
  split
  · have z := ofN_mem (v := (sip v 6).2) (l := [3, 6, 30]) (by decide)
    generalize (ofN (sip v 6).2 [3, 6, 30]).1 = w at *
    simp only [List.mem_cons, List.not_mem_nil, or_false] at z
    refine Wts.car (M := 30) ⟨?_, fun p hp => ?_, rfl⟩ (by decide) h1 h4
    · rw [List.length_cons, stF_len]
      omega
    · rcases List.mem_cons.mp hp with rfl | hp
      · exact one_good.up (by decide)
      · obtain ⟨u, rfl⟩ := stF_mem hp
        exact (someF_good (by omega)).up (by omega)
  · split
    · refine Wts.car (M := 200) ⟨?_, fun p hp => ?_, rfl⟩ (by decide) h1 h4
      · rw [List.length_cons, List.length_drop, bmps_len, List.length_replicate]
        omega
      · rcases List.mem_cons.mp hp with rfl | hp
        · exact one_good.up (by decide)
        · refine bmps_good (fun p hp => ?_) _ _ (List.mem_of_mem_drop hp)
          rw [(List.mem_replicate.mp hp).2]
          exact one_good.up (by decide)
    · split
      · exact (tie_wts _ n).car (Nat.lt_of_le_of_lt (pow12_le h4) (by decide)) h1 h4
      · obtain ⟨a, b⟩ := tieL_lep (sip v 6).1
        refine (kAll_wts (st := (freeW (stF tieF (sip v 6).2 n), stS tieF (sip v 6).2 n)) (tie_wts _ n) a (by rw [b]; decide) (by decide) n).car ?_ h1 h4
        have c := cnt_le h4 n (Nat.le_refl _)
        have d : 9 ^ cntP n n ≤ 9 ^ 6 := Nat.pow_le_pow_right (by decide) c
        exact Nat.lt_of_le_of_lt (Nat.mul_le_mul (pow12_le h4) d) (by decide)
end Gu
end
section
set_option Elab.async false
set_option linter.all false
set_option maxRecDepth 100000
set_option maxHeartbeats 4000000
set_option exponentiation.threshold 20000
namespace Gu
open PySem PySem.Spec PyProof.Rows L2
theorem ev_mu {X : Cx} {ρ : List Slot} {μ μ1 μ2 : Mem} {e : Expr} {s : Slot} (h : Ev X ρ μ e s μ1) (z : μ1 = μ2) : Ev X ρ μ e s μ2 := z ▸ h
theorem natD_sub {a b : Nat} (h : b ≤ a) : PyData.int ((a : Nat) - (b : Nat) : Int) = natD (a - b) := by
  unfold natD
  congr 1
  omega
theorem natD_sub1 {a : Nat} (h : 1 ≤ a) : PyData.int ((a : Nat) - 1 : Int) = natD (a - 1) := by
  unfold natD
  congr 1
  omega
theorem rep_one (k : Nat) (d : PyData) : (List.replicate k [d]).flatten = List.replicate k d := by
  induction k with
  | zero => rfl
  | succ k ih => rw [List.replicate_succ, List.flatten_cons, ih]; rfl
def spBench (ms ds : List PyData) (d : PyData) (ms' : List PyData) : Prop := ∃ (v : V3) (n : Nat), 1 ≤ n ∧ n ≤ 4 ∧ ms = vD v ∧ ds = [natD n] ∧ d = carD (benchF v n).1 ∧ ms' = vD (benchF v n).2
theorem tie_fs (v : V3) {n : Nat} (h : n ≤ 4) : fsOk (stF tieF v n) := ⟨by rw [stF_len]; exact h, fun t ht => by
  obtain ⟨u, rfl⟩ := stF_mem ht
  exact (tieF_good u).1.szp (by decide)⟩
section
variable {G : Gv}
theorem d_lbench (c : Gd G) : DefG G "_law_bench" 6 (spV G.K spBench) :=
  c.df 56 (ps := ["_law_vat_here", "_law_seats"]) rfl rfl (fun _ _ _ _ _ _ us hl => match us, hl with | [_, _], _ => rfl) fun f fd F =>
    fn_vat F (N := ["_law_vat_here", "_law_seats", "_law_way", "_law_weights", "_law_wide", "_law_found", "_law_lap", "_law_seat", "_law_standing"]) (fnsc (by kernel_rfl)) (fun ms ds d ms' ⟨_, _, _, _, _, e, _⟩ => by rw [e]; rfl) fun i ms ds d ms' hn hr ⟨v, n, h1, h4, e0, e1, e2, e3⟩ => by
      subst e0 e1 e2 e3
      have p1 : 1 ≤ 2 ^ n := Nat.two_pow_pos n
      have h16 : 2 ^ n ≤ 16 := Nat.pow_le_pow_right (n := 2) (by decide) h4
      have w6 := sip_lt v (z := 6) (by decide)
      refine ws_set (i := 2) (ev_callV (j := 0) (ms' := vD (sip v 6).2) (d := natD (sip v 6).1) (μ' := [vD v]) (ds := [natD 6]) (d_lsip c) (hr.mono (by decide)) (eva_cons (ev_v 0) (eva_cons ev_int eva_nil)) rfl ⟨v, 6, by decide, by decide, rfl, rfl, rfl, rfl⟩) ?_ hn
      refine ws_ifr (k := decide ((sip v 6).1 < 2)) (evt_is (evt_lt (i := ((sip v 6).1 : Nat)) (j := 2) (ev_v 2) ev_int) (by rw [Bool.eq_iff_iff]; simp only [decide_eq_true_eq]; omega)) (fun hk => ?_) fun hk => ?_
      · have e : benchF v n = ((1, 1) :: stF (fun u => someF u (ofN (sip v 6).2 [3, 6, 30]).1) (ofN (sip v 6).2 [3, 6, 30]).2 (2 ^ n - 1), stS (fun u => someF u (ofN (sip v 6).2 [3, 6, 30]).1) (ofN (sip v 6).2 [3, 6, 30]).2 (2 ^ n - 1)) := by
          unfold benchF
          rw [if_pos (of_decide_eq_true hk)]
        rw [e]
        have z := ofN_mem (v := (sip v 6).2) (l := [3, 6, 30]) (by decide)
        simp only [List.mem_cons, List.not_mem_nil, or_false] at z
        refine ws_set (i := 4) (ev_callV (j := 0) (ms' := vD (ofN (sip v 6).2 [3, 6, 30]).2) (d := natD (ofN (sip v 6).2 [3, 6, 30]).1) (μ' := [vD (sip v 6).2]) (ds := [.list ([3, 6, 30].map natD)]) (d_lof c) (hr.mono (by decide)) (eva_cons (ev_v 0) (eva_cons (ev_lst (evd_cons ev_int (evd_cons ev_int (evd_cons ev_int evd_nil)))) eva_nil)) rfl (spOf_map (u := 1) (by decide) (by decide))) ?_ hn
        generalize (ofN (sip v 6).2 [3, 6, 30]).2 = v2
        generalize (ofN (sip v 6).2 [3, 6, 30]).1 = w at *
        refine ws_ret (s := .dat (carD ((1, 1) :: stF (fun u => someF u w) v2 (2 ^ n - 1)))) (μ' := [vD (stS (fun u => someF u w) v2 (2 ^ n - 1))]) (ev_is (ev_tupleL sl_l (c.fr 79) (ev_cat (ds := [pp (1, 1)]) (es' := picked (fun _ => true) (fun k => pp (someF (stS (fun u => someF u w) v2 k) w).1) (2 ^ n - 1)) ?_ (ev_lst (evd_cons (ev_tup (evd_cons ev_int (evd_cons ev_int evd_nil))) evd_nil)) (ev_lc (n := 2 ^ n - 1) (j := 8) (M := fun k => [vD (stS (fun u => someF u w) v2 k)]) (keep := fun _ => true) (val := fun k => pp (someF (stS (fun u => someF u w) v2 k) w).1) rfl hn (evi_n1 (n := 2 ^ n - 1) (c.fr 83) (by omega) (ev_is (ev_sub (ev_shlN (by omega) ev_int (ev_v 1)) ev_int) (congrArg Slot.dat (natD_sub1 p1)))) (by rw [List.length_map, List.length_range]) (Nat.le_trans (Nat.sub_le _ _) (Nat.le_trans h16 (by decide))) (fun k d hd => ?_) (hj := Nat.lt_of_sub_eq_succ rfl)))) ?_) ⟨rfl, rfl⟩
        · have := picked_len (fun _ => true) (fun k => pp (someF (stS (fun u => someF u w) v2 k) w).1) (2 ^ n - 1)
          show 1 + _ ≤ 100000
          omega
        · exact ⟨_, fun b => evf_nil, (fun z => Bool.noConfusion z), fun _ b => ev_callV (j := 0) (ms' := vD (stS (fun u => someF u w) v2 (k + 1))) (d := pp (someF (stS (fun u => someF u w) v2 k) w).1) (μ' := [vD (stS (fun u => someF u w) v2 k)]) (ds := [natD w]) (d_lsome c) (hr.mono (by decide)) (eva_cons (ev_v 0) (eva_cons (ev_v 4) eva_nil)) rfl ⟨_, w, by omega, by omega, rfl, rfl, rfl, rfl⟩⟩
        · rw [picked_true]
          unfold carD stF
          rw [List.map_cons, List.map_map]
          rfl
      · have k2 : ¬ (sip v 6).1 < 2 := of_decide_eq_false hk
        refine ws_ifr (k := decide ((sip v 6).1 = 2)) (evt_is (evt_eq (i := ((sip v 6).1 : Nat)) (j := 2) (ev_v 2) ev_int) (by rw [Bool.eq_iff_iff]; simp only [decide_eq_true_eq]; omega)) (fun hk => ?_) fun hk => ?_
        · have e : benchF v n = ((1, 1) :: (bmps (2 ^ n - 1) (List.replicate (2 ^ n) (1, 1), (sip (sip v 6).2 3).2) (1 + (sip (sip v 6).2 3).1)).1.drop 1, (bmps (2 ^ n - 1) (List.replicate (2 ^ n) (1, 1), (sip (sip v 6).2 3).2) (1 + (sip (sip v 6).2 3).1)).2) := by
            unfold benchF
            rw [if_neg k2, if_pos (of_decide_eq_true hk)]
          rw [e]
          have w3 := sip_lt (sip v 6).2 (z := 3) (by decide)
          generalize (sip v 6).1 = way at *
          generalize (sip v 6).2 = v1 at *
          refine ws_set (i := 5) (s := .mut 1) (μ' := [vD v1, (List.replicate (2 ^ n) ((1, 1) : Int × Int)).map pp]) (ev_mu (ev_repM (j := ((2 ^ n : Nat) : Int)) (ds := [pp (1, 1)]) (by omega) (by omega) (by rw [Int.toNat_natCast]; show 1 * 2 ^ n ≤ 100000; omega) (ev_lst (evd_cons (ev_tup (evd_cons ev_int (evd_cons ev_int evd_nil))) evd_nil)) (ev_shlN (by omega) ev_int (ev_v 1))) ?_) ?_ hn
          · rw [Int.toNat_natCast, rep_one, List.map_replicate]
            rfl
          refine ws_forN (I := fun k ρ μ => ∃ a, μ = [vD (bmps (2 ^ n - 1) (List.replicate (2 ^ n) (1, 1), (sip v1 3).2) k).2, (bmps (2 ^ n - 1) (List.replicate (2 ^ n) (1, 1), (sip v1 3).2) k).1.map pp] ∧ ρ = [.mut 0, .dat (natD n), .dat (natD way), .un, .un, .mut 1, a, .un, .un]) 6 bX_own rfl hn (evi_n1 (n := 1 + (sip v1 3).1) (c.fr 83) (by omega) (ev_is (ev_add ev_int (ev_callV (j := 0) (ms' := vD (sip v1 3).2) (d := natD (sip v1 3).1) (μ' := [vD v1, (List.replicate (2 ^ n) ((1, 1) : Int × Int)).map pp]) (ds := [natD 3]) (d_lsip c) (hr.mono (by decide)) (eva_cons (ev_v 0) (eva_cons ev_int eva_nil)) rfl ⟨v1, 3, by decide, by decide, rfl, rfl, rfl, rfl⟩)) (congrArg Slot.dat (natD_add 1 _)))) ⟨.un, rfl, rfl⟩ ?_ ?_
          · rintro k d ρ μ hd ⟨a, rfl, rfl⟩
            have es : bmps (2 ^ n - 1) (List.replicate (2 ^ n) (1, 1), (sip v1 3).2) (k + 1) = bmp (2 ^ n - 1) (bmps (2 ^ n - 1) (List.replicate (2 ^ n) (1, 1), (sip v1 3).2) k) := rfl
            have el := bmps_len (2 ^ n - 1) (List.replicate (2 ^ n) (1, 1), (sip v1 3).2) k
            rw [es]
            rw [List.length_replicate] at el
            generalize bmps (2 ^ n - 1) (List.replicate (2 ^ n) (1, 1), (sip v1 3).2) k = st at *
            obtain ⟨l, u⟩ := st
            have el' : l.length = 2 ^ n := el
            have a4 := ofN_mem (v := u) (l := [5, 9, 50, 200]) (by decide)
            have b3 := ofN_mem (v := bmpA u) (l := [1, 1, 7]) (by decide)
            have s0 := sip_lt (bmpB u) (z := 2 ^ n - 1) (by
              have : 2 ^ 1 ≤ 2 ^ n := Nat.pow_le_pow_right (by decide) h1
              omega)
            have hz : 0 < 2 ^ n - 1 := by
              have : 2 ^ 1 ≤ 2 ^ n := Nat.pow_le_pow_right (by decide) h1
              omega
            refine ws_setix (ds := l.map pp) (j := 1) (i := ((1 + (sip (bmpB u) (2 ^ n - 1)).1 : Nat) : Int)) (d := pp (bmpQ u)) (μ1 := [vD (bmpB u), l.map pp]) (μ2 := [vD (bmpB u), l.map pp]) (μ3 := [vD (sip (bmpB u) (2 ^ n - 1)).2, l.map pp])
              (ev_tup (evd_cons (ev_callV (j := 0) (ms' := vD (bmpA u)) (d := natD (ofN u [5, 9, 50, 200]).1) (μ' := [vD u, l.map pp]) (ds := [.list ([5, 9, 50, 200].map natD)]) (d_lof c) (hr.mono (by decide)) (eva_cons (ev_v 0) (eva_cons (ev_lst (evd_cons ev_int (evd_cons ev_int (evd_cons ev_int (evd_cons ev_int evd_nil))))) eva_nil)) rfl (spOf_map (u := 1) (by decide) (by decide)))
                (evd_cons (ev_callV (j := 0) (ms' := vD (bmpB u)) (d := natD (ofN (bmpA u) [1, 1, 7]).1) (μ' := [vD (bmpA u), l.map pp]) (ds := [.list ([1, 1, 7].map natD)]) (d_lof c) (hr.mono (by decide)) (eva_cons (ev_v 0) (eva_cons (ev_lst (evd_cons ev_int (evd_cons ev_int (evd_cons ev_int evd_nil)))) eva_nil)) rfl (spOf_map (u := 1) (by decide) (by decide))) evd_nil)))
              (ev_v 5) (ev_is (ev_add ev_int (ev_callV (j := 0) (ms' := vD (sip (bmpB u) (2 ^ n - 1)).2) (d := natD (sip (bmpB u) (2 ^ n - 1)).1) (μ' := [vD (bmpB u), l.map pp]) (ds := [natD (2 ^ n - 1)]) (d_lsip c) (hr.mono (by decide)) (eva_cons (ev_v 0) (eva_cons (ev_is (ev_sub (ev_shlN (by omega) ev_int (ev_v 1)) ev_int) (congrArg Slot.dat (natD_sub1 p1))) eva_nil)) rfl ⟨_, 2 ^ n - 1, hz, by omega, rfl, rfl, rfl, rfl⟩)) (congrArg Slot.dat (natD_add 1 _))) rfl (by omega) ?_ (ws_nil ⟨.dat d, ?_, rfl⟩)
            · rw [List.length_map, el']
              omega
            · show [vD (sip (bmpB u) (2 ^ n - 1)).2, (l.map pp).set (1 + (sip (bmpB u) (2 ^ n - 1)).1) (pp (bmpQ u))] = [vD (bmp (2 ^ n - 1) (l, u)).2, (l.set (1 + (sip (bmpB u) (2 ^ n - 1)).1) (bmpQ u)).map pp]
              rw [List.map_set]
              rfl
          · rintro ρ μ ⟨a, rfl, rfl⟩
            rw [List.length_map, List.length_range]
            have el := bmps_len (2 ^ n - 1) (List.replicate (2 ^ n) (1, 1), (sip v1 3).2) (1 + (sip v1 3).1)
            rw [List.length_replicate] at el
            generalize bmps (2 ^ n - 1) (List.replicate (2 ^ n) (1, 1), (sip v1 3).2) (1 + (sip v1 3).1) = st at *
            refine ws_ret (s := .dat (carD ((1, 1) :: st.1.drop 1))) (μ' := [vD st.2, st.1.map pp]) (ev_is (ev_tupleL sl_l (c.fr 79) (ev_cat (ds := [pp (1, 1)]) (es' := (st.1.map pp).drop 1) ?_ (ev_lst (evd_cons (ev_tup (evd_cons ev_int (evd_cons ev_int evd_nil))) evd_nil)) (ev_from (k := 1) (sl_m rfl) (ev_v 5) ev_int))) ?_) ⟨rfl, rfl⟩
            · rw [List.length_drop, List.length_map, el]
              show 1 + _ ≤ 100000
              omega
            · unfold carD
              rw [List.map_cons, List.map_drop]
              rfl
        · have k3 : ¬ (sip v 6).1 = 2 := of_decide_eq_false hk
          refine ws_set (i := 3) (s := .dat (carD (freeW (stF tieF (sip v 6).2 n)))) (μ' := [vD (stS tieF (sip v 6).2 n)]) (ev_call (d_lfree c) (hr.mono (by decide)) (evd_cons (d := .list ((stF tieF (sip v 6).2 n).map pp)) (ev_is (ev_lc (n := n) (j := 7) (M := fun k => [vD (stS tieF (sip v 6).2 k)]) (keep := fun _ => true) (val := fun k => pp (tieF (stS tieF (sip v 6).2 k)).1) rfl hn (evi_n1 (n := n) (c.fr 83) (by omega) (ev_v 1)) (by rw [List.length_map, List.length_range]) (Nat.le_trans h4 (by decide)) (fun k d hd => ?_) (hj := Nat.lt_of_sub_eq_succ rfl)) ?_) evd_nil) ⟨stF tieF (sip v 6).2 n, tie_fs _ h4, rfl, rfl⟩) ?_ hn
          · have z := ofN_mem (v := stS tieF (sip v 6).2 k) (l := [2, 4, 12]) (by decide)
            simp only [List.mem_cons, List.not_mem_nil, or_false] at z
            exact ⟨_, fun b => evf_nil, (fun z => Bool.noConfusion z), fun _ b => ev_callV (j := 0) (ms' := vD (stS tieF (sip v 6).2 (k + 1))) (d := pp (tieF (stS tieF (sip v 6).2 k)).1) (μ' := [vD (ofN (stS tieF (sip v 6).2 k) [2, 4, 12]).2]) (ds := [natD (ofN (stS tieF (sip v 6).2 k) [2, 4, 12]).1]) (d_lsome c) (hr.mono (by decide)) (eva_cons (ev_v 0) (eva_cons (ev_callV (j := 0) (ms' := vD (ofN (stS tieF (sip v 6).2 k) [2, 4, 12]).2) (d := natD (ofN (stS tieF (sip v 6).2 k) [2, 4, 12]).1) (μ' := [vD (stS tieF (sip v 6).2 k)]) (ds := [.list ([2, 4, 12].map natD)]) (d_lof c) (hr.mono (by decide)) (eva_cons (ev_v 0) (eva_cons (ev_lst (evd_cons ev_int (evd_cons ev_int (evd_cons ev_int evd_nil)))) eva_nil)) rfl (spOf_map (u := 1) (by decide) (by decide))) eva_nil)) rfl ⟨_, _, by omega, by omega, rfl, rfl, rfl, rfl⟩⟩
          · rw [picked_true]
            unfold stF
            rw [List.map_map]
            rfl
          refine ws_ifr (k := decide ((sip v 6).1 = 3)) (evt_is (evt_eq (i := ((sip v 6).1 : Nat)) (j := 3) (ev_v 2) ev_int) (by rw [Bool.eq_iff_iff]; simp only [decide_eq_true_eq]; omega)) (fun hk => ?_) fun hk => ?_
          · have e : benchF v n = (freeW (stF tieF (sip v 6).2 n), stS tieF (sip v 6).2 n) := by
              unfold benchF
              rw [if_neg k2, if_neg k3, if_pos (of_decide_eq_true hk)]
            rw [e]
            exact ws_ret (ev_v 3) ⟨rfl, rfl⟩
          · have k4 : ¬ (sip v 6).1 = 3 := of_decide_eq_false hk
            have e : benchF v n = kAll (tieL (sip v 6).1) n (freeW (stF tieF (sip v 6).2 n), stS tieF (sip v 6).2 n) n := by
              unfold benchF
              rw [if_neg k2, if_neg k3, if_neg k4]
            rw [e]
            have wt := tie_wts (sip v 6).2 n
            have w45 : (sip v 6).1 = 4 ∨ (sip v 6).1 = 5 := by omega
            have ix : [tieL 4, tieL 5][(sip v 6).1 - 4]? = some (tieL (sip v 6).1) := by
              rcases w45 with z | z <;> rw [z] <;> rfl
            obtain ⟨t9, tl4⟩ := tieL_lep (sip v 6).1
            generalize freeW (stF tieF (sip v 6).2 n) = ws at *
            generalize stS tieF (sip v 6).2 n = v2
            refine ws_ret (s := .dat (carD (kAll (tieL (sip v 6).1) n (ws, v2) n).1)) (μ' := [vD (kAll (tieL (sip v 6).1) n (ws, v2) n).2]) (ev_callV (j := 0) (ms' := vD (kAll (tieL (sip v 6).1) n (ws, v2) n).2) (d := carD (kAll (tieL (sip v 6).1) n (ws, v2) n).1) (μ' := [vD v2]) (ds := [carD ws, .list ((tieL (sip v 6).1).map pp)]) (d_lknots c) hr (eva_cons (ev_v 0) (eva_cons (ev_v 3) (eva_cons (ev_ixK (l := [tieL 4, tieL 5]) (g := fun l => .list (l.map pp)) (k := (sip v 6).1 - 4) sq_l (ev_lst (evd_cons (ev_lst (evd_cons (ev_tup (evd_cons ev_int (evd_cons ev_int evd_nil))) (evd_cons (ev_tup (evd_cons ev_int (evd_cons ev_int evd_nil))) (evd_cons (ev_tup (evd_cons ev_int (evd_cons ev_int evd_nil))) (evd_cons (ev_tup (evd_cons ev_int (evd_cons ev_int evd_nil))) evd_nil)))))
              (evd_cons (ev_lst (evd_cons (ev_tup (evd_cons ev_int (evd_cons ev_int evd_nil))) (evd_cons (ev_tup (evd_cons ev_int (evd_cons ev_int evd_nil))) (evd_cons (ev_tup (evd_cons ev_int (evd_cons ev_int evd_nil))) (evd_cons (ev_tup (evd_cons ev_int (evd_cons ev_int evd_nil))) evd_nil))))) evd_nil))) (ev_is (ev_sub (i := ((sip v 6).1 : Nat)) (j := ((4 : Nat) : Int)) (ev_v 2) ev_int) (congrArg Slot.dat (natD_sub (by omega)))) ix) eva_nil))) rfl ⟨v2, ws, n, 12 ^ n, tieL (sip v 6).1, wt.car (Nat.lt_of_le_of_lt (pow12_le h4) (by decide)) h1 h4, fun p hp => (wt.all p hp).1, Nat.le_trans (pow12_le h4) (by decide), t9, by omega, by omega, rfl, rfl, rfl, rfl⟩) ⟨rfl, rfl⟩
end
end Gu
end
section
set_option Elab.async false
set_option linter.all false
set_option maxRecDepth 100000
set_option maxHeartbeats 4000000
set_option exponentiation.threshold 20000
namespace Gu
open PySem PySem.Spec PyProof.Rows L2
def dieF (v : V3) : (Int × Int) × V3 := someF v 6
def dieL : List (Int × Int) := [(2, 1), (1, 1), (3, 2), (7, 1)]
def dieM : List (Int × Int) := [(2, 1), (5, 4)]
def dieW (v : V3) : KS := kAll dieL 3 (freeW (stF dieF v 3), stS dieF v 3) 3
def drawF (v : V3) : KS :=
  if (sip (dieW v).2 2).1 = 0 then ((dieW v).1.set 7 (timesP (at1 (dieW v).1 7) (ofP (sip (dieW v).2 2).2 dieM).1), (ofP (sip (dieW v).2 2).2 dieM).2)
  else ((dieW v).1, (sip (dieW v).2 2).2)
theorem dieL_lep : allLep 9 dieL := fun p hp => by
  unfold dieL at hp
  simp only [List.mem_cons, List.not_mem_nil, or_false] at hp
  rcases hp with rfl | rfl | rfl | rfl <;> exact ⟨by decide, by decide, by decide, by decide⟩
theorem dieM_good : ∀ p ∈ dieM, Good 5 p := fun p hp => by
  unfold dieM at hp
  simp only [List.mem_cons, List.not_mem_nil, or_false] at hp
  rcases hp with rfl | rfl <;> exact ⟨⟨by decide, by decide, by decide, by decide⟩, by unfold Red; decide⟩
theorem die_free (v : V3) : Wts (6 ^ 3) (freeW (stF dieF v 3)) 3 := by
  have z := free_wts (M := 6) (fs := stF dieF v 3) (by decide) fun t ht => by
    obtain ⟨u, rfl⟩ := stF_mem ht
    exact someF_good (by decide)
  rw [stF_len] at z
  exact z
theorem die_fs (v : V3) : fsOk (stF dieF v 3) := ⟨by rw [stF_len]; decide, fun t ht => by
  obtain ⟨u, rfl⟩ := stF_mem ht
  exact (show Good 6 (dieF u).1 from someF_good (by decide)).1.szp (by decide)⟩
theorem die_wts (v : V3) : Wts (6 ^ 3 * 9 ^ 6) (dieW v).1 3 := by
  have z := kAll_wts (st := (freeW (stF dieF v 3), stS dieF v 3)) (m := 3) (die_free v) dieL_lep (by decide) (by decide) 3
  exact ⟨z.len, fun p hp => (z.all p hp).up (by decide), z.one⟩
theorem draw_car (v : V3) : Car (drawF v).1 3 := by
  have w := die_wts v
  unfold drawF
  split
  · refine Wts.car (M := 6 ^ 3 * 9 ^ 6 * 5) ⟨by rw [List.length_set]; exact w.len, fun p hp => ?_, ?_⟩ (by decide) (by decide) (by decide)
    · rcases List.mem_or_eq_of_mem_set hp with q | q
      · exact (w.all p q).up (by decide)
      · rw [q]
        have g := w.all _ (at1_mem (show 7 < (dieW v).1.length by rw [w.len]; decide))
        have h := dieM_good _ (ofP_mem (v := (sip (dieW v).2 2).2) (l := dieM) (by decide))
        exact ⟨g.1.mul h.1, times_red g.1.2.1 h.1.2.1⟩
    · rw [List.getElem?_set_ne (by decide)]
      exact w.one
  · exact w.car (by decide) (by decide) (by decide)
def spDrawing (ms ds : List PyData) (d : PyData) (ms' : List PyData) : Prop := ∃ v : V3, ms = vD v ∧ ds = [natD 3] ∧ d = carD (drawF v).1 ∧ ms' = vD (drawF v).2
def dset (ws : List (Int × Int)) (x : Int × Int) (k : Nat) : List (Int × Int) := if 8 ≤ k then ws.set 7 x else ws
section
variable {G : Gv}
theorem d_ldrawing (c : Gd G) : DefG G "_law_drawing" 6 (spV G.K spDrawing) :=
  c.df 65 (ps := ["_law_vat_here", "_law_seats"]) rfl rfl (fun _ _ _ _ _ _ us hl => match us, hl with | [_, _], _ => rfl) fun f fd F =>
    fn_vat F (N := ["_law_vat_here", "_law_seats", "_law_weights", "_law_standing", "_law_found", "_law_by", "_law_seat"]) (fnsc (by kernel_rfl)) (fun ms ds d ms' ⟨_, _, e, _⟩ => by rw [e]; rfl) fun i ms ds d ms' hn hr ⟨v, e0, e1, e2, e3⟩ => by
      subst e0 e1 e2 e3
      refine ws_set (i := 2) (s := .dat (carD (freeW (stF dieF v 3)))) (μ' := [vD (stS dieF v 3)]) (ev_call (d_lfree c) (hr.mono (by decide)) (evd_cons (d := .list ((stF dieF v 3).map pp)) (ev_is (ev_lc (n := 3) (j := 6) (M := fun k => [vD (stS dieF v k)]) (keep := fun _ => true) (val := fun k => pp (dieF (stS dieF v k)).1) rfl hn (evi_n1 (n := 3) (c.fr 83) (by decide) (ev_v 1)) rfl (by unfold small; decide) (fun k d hd => ?_) (hj := Nat.lt_of_sub_eq_succ rfl)) ?_) evd_nil) ⟨stF dieF v 3, die_fs v, rfl, rfl⟩) ?_ hn
      · exact ⟨_, fun b => evf_nil, (fun z => Bool.noConfusion z), fun _ b => ev_callV (j := 0) (ms' := vD (stS dieF v (k + 1))) (d := pp (dieF (stS dieF v k)).1) (μ' := [vD (stS dieF v k)]) (ds := [natD 6]) (d_lsome c) (hr.mono (by decide)) (eva_cons (ev_v 0) (eva_cons ev_int eva_nil)) rfl ⟨_, 6, by decide, by decide, rfl, rfl, rfl, rfl⟩⟩
      · rw [picked_true]
        unfold stF
        rw [List.map_map]
        rfl
      have fw := die_free v
      refine ws_set (i := 2) (s := .dat (carD (dieW v).1)) (μ' := [vD (dieW v).2]) (ev_callV (j := 0) (ms' := vD (dieW v).2) (d := carD (dieW v).1) (μ' := [vD (stS dieF v 3)]) (ds := [carD (freeW (stF dieF v 3)), .list (dieL.map pp)]) (d_lknots c) hr (eva_cons (ev_v 0) (eva_cons (ev_v 2) (eva_cons (ev_lst (evd_cons (ev_tup (evd_cons ev_int (evd_cons ev_int evd_nil))) (evd_cons (ev_tup (evd_cons ev_int (evd_cons ev_int evd_nil))) (evd_cons (ev_tup (evd_cons ev_int (evd_cons ev_int evd_nil))) (evd_cons (ev_tup (evd_cons ev_int (evd_cons ev_int evd_nil))) evd_nil))))) eva_nil))) rfl
        ⟨stS dieF v 3, freeW (stF dieF v 3), 3, 6 ^ 3, dieL, fw.car (by decide) (by decide) (by decide), fun p hp => (fw.all p hp).1, by decide, dieL_lep, by decide, by decide, rfl, rfl, rfl, rfl⟩) ?_ hn
      have w := die_wts v
      have el : (dieW v).1.length = 8 := w.len
      have ed : drawF v = if (sip (dieW v).2 2).1 = 0 then ((dieW v).1.set 7 (timesP (at1 (dieW v).1 7) (ofP (sip (dieW v).2 2).2 dieM).1), (ofP (sip (dieW v).2 2).2 dieM).2) else ((dieW v).1, (sip (dieW v).2 2).2) := rfl
      rw [ed]
      generalize dieW v = st at *
      obtain ⟨ws, v2⟩ := st
      have el' : ws.length = 8 := el
      refine ws_if (k := decide ((sip v2 2).1 = 0)) (μ1 := [vD (sip v2 2).2]) (evt_of (evw_and (k := true) (evt_is (evt_gt (ev_v 1) ev_int) rfl) (fun _ => evw_and1 (evt_is (evt_eq (i := ((sip v2 2).1 : Nat)) (j := 0) (ev_callV (j := 0) (ms' := vD (sip v2 2).2) (d := natD (sip v2 2).1) (μ' := [vD v2]) (ds := [natD 2]) (d_lsip c) (hr.mono (by decide)) (eva_cons (ev_v 0) (eva_cons ev_int eva_nil)) rfl ⟨v2, 2, by decide, by decide, rfl, rfl, rfl, rfl⟩) ev_int) (by rw [Bool.eq_iff_iff]; simp only [decide_eq_true_eq]; omega))) (fun z => by cases z))) (fun hk => ?_) fun hk => ?_
      · rw [if_pos (of_decide_eq_true hk)]
        refine ws_par (i := 4) (j := 5) (sa := .mut 1) (sb := .dat (pp (ofP (sip v2 2).2 dieM).1)) (μ' := [vD (ofP (sip v2 2).2 dieM).2, ws.map pp]) (eva_cons (ev_listM sq_t (c.fr 85) (ev_v 2)) (eva_cons (ev_callV (j := 0) (ms' := vD (ofP (sip v2 2).2 dieM).2) (d := pp (ofP (sip v2 2).2 dieM).1) (μ' := [vD (sip v2 2).2, ws.map pp]) (ds := [.list (dieM.map pp)]) (d_lof c) (hr.mono (by decide)) (eva_cons (ev_v 0) (eva_cons (ev_lst (evd_cons (ev_tup (evd_cons ev_int (evd_cons ev_int evd_nil))) (evd_cons (ev_tup (evd_cons ev_int (evd_cons ev_int evd_nil))) evd_nil))) eva_nil)) rfl (spOf_map (u := (1, 1)) (by decide) (by decide))) eva_nil)) ?_ rfl hn
        have hq := dieM_good _ (ofP_mem (v := (sip v2 2).2) (l := dieM) (by decide))
        generalize (ofP (sip v2 2).2 dieM).2 = v3
        generalize (ofP (sip v2 2).2 dieM).1 = q at *
        refine ws_forN (I := fun k ρ μ => ∃ a, μ = [vD v3, (dset ws (timesP (at1 ws 7) q) k).map pp] ∧ ρ = [.mut 0, .dat (natD 3), .dat (carD ws), a, .mut 1, .dat (pp q), .un]) 3 bX_own rfl hn (evi_n1 (n := 8) (c.fr 83) (by decide) (ev_is (ev_len (ds := ws.map pp) (sq_m rfl) (c.fr 80) (ev_v 4)) (by rw [List.length_map, el']))) ⟨.un, rfl, rfl⟩ ?_ ?_
        · rintro k d ρ μ hd ⟨a, rfl, rfl⟩
          obtain ⟨u, hu, rfl⟩ := map_inv hd
          obtain ⟨rfl, hu8⟩ := range_inv hu
          have e0 : dset ws (timesP (at1 ws 7) q) u = ws := if_neg (by omega)
          rw [e0]
          refine ws_if (k := decide (u = 7)) (evt_is (evt_eq (i := ((u : Nat) : Int) % 8) (j := 7) (ev_mod (by decide) (ev_intC (c.fr 77) (ev_v 3)) ev_int) ev_int) (by rw [Bool.eq_iff_iff]; simp only [decide_eq_true_eq]; omega)) (fun hb => ?_) fun hb => ?_
          · have u7 : u = 7 := of_decide_eq_true hb
            subst u7
            have g := w.all _ (at1_mem (show 7 < ws.length by omega))
            refine ws_setix (ds := ws.map pp) (j := 1) (i := ((7 : Nat) : Int)) (d := pp (timesP (at1 ws 7) q)) (ev_call (d_lmul c) (hr.mono (by decide)) (evd_cons (ev_ixK (g := pp) (sq_m rfl) (ev_v 4) (ev_v 3) (at1_some (by omega))) (evd_cons (ev_v 5) evd_nil)) ⟨_, _, (g.1.szp (B := 300) (by decide)).ok (by decide), (hq.1.szp (B := 300) (by decide)).ok (by decide), rfl, rfl⟩) (ev_v 4) (ev_v 3) rfl (by decide) ?_ (ws_nil (ws_nil ⟨.dat (natD 7), ?_, rfl⟩))
            · rw [List.length_map, el']
              decide
            · show [vD v3, (ws.map pp).set 7 (pp (timesP (at1 ws 7) q))] = [vD v3, (ws.set 7 (timesP (at1 ws 7) q)).map pp]
              rw [List.map_set]
          · have u7 : ¬ u = 7 := of_decide_eq_false hb
            have e1 : dset ws (timesP (at1 ws 7) q) (u + 1) = ws := if_neg (by omega)
            exact ws_nil (ws_nil ⟨.dat (natD u), by rw [e1], rfl⟩)
        · rintro ρ μ ⟨a, rfl, rfl⟩
          rw [List.length_map, List.length_range]
          refine ws_set (i := 2) (s := .dat (carD (ws.set 7 (timesP (at1 ws 7) q)))) (ev_tupleL (sl_m rfl) (c.fr 79) (ev_v 4)) (ws_nil (ws_ret (ev_v 2) ⟨rfl, rfl⟩)) hn
      · rw [if_neg (of_decide_eq_false hk)]
        exact ws_nil (ws_ret (ev_v 2) ⟨rfl, rfl⟩)
end
end Gu
end
section
set_option Elab.async false
set_option linter.all false
set_option maxRecDepth 100000
set_option maxHeartbeats 4000000
set_option exponentiation.threshold 20000
namespace Gu
open PySem PySem.Spec PyProof.Rows L2
/-! ### plain facts for the law's last def -/
theorem good_str {M : Nat} {p : Int × Int} (h : Good M p) (hM : M < 2 ^ 300) : Str2 p := ⟨h.1.1, h.2, h.1.szp hM⟩
theorem dose_str (v : V3) : Str2 (doseF v).1 := by
  have s9 := sip_lt (sip v 8).2 (z := 9) (by decide)
  have ten : ∀ k : Nat, k ≤ 9 → (0 : Int) < 10 ^ k ∧ ((10 : Int) ^ k).natAbs < 2 ^ 300 := fun k hk => by
    refine ⟨Int.pow_pos (by decide), ?_⟩
    rw [Int.natAbs_pow]
    exact Nat.lt_of_le_of_lt (Nat.pow_le_pow_right (by decide) hk) (by decide)
  have o : (1 : Int).natAbs < 2 ^ 300 := by decide
  unfold doseF
  split
  · obtain ⟨a, b⟩ := ten (1 + (sip (sip v 8).2 9).1) (by omega)
    exact ⟨a, gc_one1 _, Int.one_pos, b, o⟩
  · split
    · obtain ⟨a, b⟩ := ten (1 + (sip (sip v 8).2 9).1) (by omega)
      exact ⟨Int.one_pos, gc_one2 _, a, o, b⟩
    · have z := ofN_mem (v := (sip v 8).2) (l := [3, 6, 20, 97]) (by decide)
      generalize (ofN (sip v 8).2 [3, 6, 20, 97]).1 = w at *
      simp only [List.mem_cons, List.not_mem_nil, or_false] at z
      exact good_str ((someF_good (by omega)).up (show w ≤ 97 by omega)) (by decide)
theorem own_ok (v : V3) {n : Nat} (h : n ≤ 4) : ssOk (stF doseF v n) := ⟨by rw [stF_len]; exact h, fun t ht => by
  obtain ⟨u, rfl⟩ := stF_mem ht
  exact dose_str u⟩
theorem one_str : Str2 (1, 1) := ⟨by decide, by decide, by decide, by decide, by decide⟩
theorem ones_ok {n : Nat} (h : n ≤ 4) : ssOk (List.replicate n (1, 1)) := ⟨by rw [List.length_replicate]; exact h, fun t ht => by
  rw [(List.mem_replicate.mp ht).2]
  exact one_str⟩
theorem okB_true {n i j : Nat} {ss : List (Int × Int)} (h : ssOk ss) (hl : ss.length = n) (hi : i < n) (hj : j < n) (hij : i ≠ j) : okB n ss i j = true := by
  have e : ss.all amtB = true := List.all_eq_true.mpr fun t ht => by
    obtain ⟨a, b, c, _⟩ := h.2 t ht
    unfold amtB
    simp only [Bool.and_eq_true, decide_eq_true_eq]
    exact ⟨⟨c, b⟩, a⟩
  unfold okB
  rw [e, decide_eq_true hl, decide_eq_true hi, decide_eq_true hj, decide_eq_false hij]
  rfl
theorem okB_same {n i : Nat} {ss : List (Int × Int)} : okB n ss i i = false := by
  unfold okB
  rw [decide_eq_true (rfl : i = i)]
  simp
theorem okB_short {n i j : Nat} {ss : List (Int × Int)} (h : ss.length ≠ n) : okB n ss i j = false := by
  unfold okB
  rw [decide_eq_false h]
  simp
/-- what lowering hands back -/
theorem low_cases {ws : List (Int × Int)} {n : Nat} (h : Car ws n) : (firstP ws n = none ∧ lowD ws n = .none) ∨ ∃ r t, firstP ws n = some r ∧ t ≤ 256 ∧ negB ws n r t = true ∧ lowD ws n = dueD n r t := by
  cases hf : firstP ws n with
  | none =>
    refine .inl ⟨rfl, ?_⟩
    unfold lowD
    rw [hf]
  | some r =>
    have z := neg256 h hf
    have e : ∃ t, tl.find? (negB ws n r) = some t ∧ t ≤ 256 ∧ negB ws n r t = true := by
      cases q : tl.find? (negB ws n r) with
      | none => exact absurd z (List.find?_eq_none.mp q 256 (by decide))
      | some t =>
        refine ⟨t, rfl, ?_, List.find?_some q⟩
        have m := List.mem_of_find?_eq_some q
        rcases Nat.lt_or_ge 256 t with k | k
        · have t512 : t = 512 := by
            unfold tl at m
            simp only [List.mem_cons, List.not_mem_nil, or_false] at m
            omega
          subst t512
          rw [List.find?_eq_some_iff_append] at q
          obtain ⟨_, as, bs, e1, e2⟩ := q
          have m2 : 256 ∈ as := by
            have e3 : (256 : Nat) ∈ as ++ 512 :: bs := by
              rw [← e1]
              decide
            rcases List.mem_append.mp e3 with m3 | m3
            · exact m3
            · have ln : as.length = 10 := by
                have i1 : tl[as.length]? = some 512 := by
                  rw [e1, List.getElem?_append_right (Nat.le_refl _), Nat.sub_self]
                  rfl
                have i2 : as.length < 11 := (List.getElem?_eq_some_iff.mp i1).1
                have i3 : ∀ k, k < 11 → tl[k]? = some 512 → k = 10 := by decide
                exact i3 _ i2 i1
              have bn : bs.length = 0 := by
                have := congrArg List.length e1
                rw [List.length_append, List.length_cons, ln] at this
                have l11 : tl.length = 11 := rfl
                omega
              rw [List.length_eq_zero_iff.mp bn, List.mem_singleton] at m3
              cases m3
          have := e2 256 m2
          rw [z] at this
          cases this
        · exact k
    obtain ⟨t, e1, e2, e3⟩ := e
    refine .inr ⟨r, t, rfl, e2, e3, ?_⟩
    unfold lowD
    rw [hf]
    show (match tl.find? (negB ws n r) with
      | none => PyData.none
      | some t => dueD n r t) = _
    rw [e1]
theorem due_pap (n : Nat) (r : Nat × Nat × Nat) (t : Nat) : dueD n r t = papD (leanP n r.1 r.2.1 r.2.2 (2 ^ t)) r.1 r.2.1 := rfl
theorem p300 {k : Nat} (h : k ≤ 100) : k < 2 ^ 300 := Nat.lt_of_le_of_lt h (by decide)
theorem rp_low {ws : List (Int × Int)} {n : Nat} (h : Car ws n) : Rp (lowD ws n) 3100 3 := by
  have h4 := h.n4
  rcases low_cases h with ⟨_, e⟩ | ⟨r, t, hf, ht, _, e⟩
  · rw [e]
    exact (rp_none (D := 0)).up (by decide) (by decide)
  · rw [e, due_pap]
    obtain ⟨m1, m2, _⟩ := first_mem h hf
    have ss := lean_ss (n := n) (i := r.1) (j := r.2.1) (s := r.2.2) h4 ht
    exact rp_pap ss.1 (fun t ht => (ss.2 t ht).2.2) (p300 (by omega)) (p300 (by omega)) (D := 0)
theorem rp_clm {ws : List (Int × Int)} {n : Nat} (h : Car ws n) {w : Str} (hw : w = "draws" ∨ w = "lowers") : Rp (clmD w ws) 9700 3 := by
  have z := rp_car (D := 0) h
  have y : Rp (.str w) 10 2 := by
    rcases hw with rfl | rfl <;> exact ⟨by decide +kernel, by decide +kernel, by decide +kernel, by decide +kernel⟩
  exact (rp_tuple (rpl_cons y (rpl_cons z rpl_nil (V := 0)))).up (by decide) (by decide)
/-- the pair that comes with the carrier -/
theorem cert_ok {ws : List (Int × Int)} {n : Nat} (h : Car ws n) : ∃ (w : Str) (q : PyData), certD ws n = .tuple [clmD w ws, q] ∧ Ask ws n (clmD w ws) q true ∧ ((isNon (lowD ws n) = true ∧ w = "draws" ∧ q = .tuple []) ∨ (isNon (lowD ws n) = false ∧ w = "lowers")) := by
  have h4 := h.n4
  have hn := lowD_none h
  rcases low_cases h with ⟨hf, e⟩ | ⟨r, t, hf, ht, hb, e⟩
  · refine ⟨"draws", .tuple [], ?_, ?_, .inl ⟨by rw [e]; rfl, rfl, rfl⟩⟩
    · unfold certD
      rw [hf]
      rfl
    · have z := Ask.draws (ws := ws) (n := n)
      rw [hf] at z
      exact z
  · obtain ⟨m1, m2, m3, _⟩ := first_mem h hf
    have ss := lean_ss (n := n) (i := r.1) (j := r.2.1) (s := r.2.2) h4 ht
    refine ⟨"lowers", lowD ws n, ?_, ?_, .inr ⟨by rw [e]; rfl, rfl⟩⟩
    · unfold certD
      rw [hf]
      rfl
    · rw [e, due_pap]
      have z := Ask.lowers (ws := ws) (n := n) (Pap.ok (n := n) (ss := leanP n r.1 r.2.1 r.2.2 (2 ^ t)) (i := r.1) (j := r.2.1) (by have := ss.1; omega) (by omega) (by omega)) (fun t ht => (ss.2 t ht).2.2)
      have lb : lowB ws n (some (leanP n r.1 r.2.1 r.2.2 (2 ^ t), r.1, r.2.1)) = true := by
        show (okB n _ r.1 r.2.1 && _) = true
        rw [okB_true ss (lean_len _ _ _ _ _) m1 m2 (by omega), Bool.true_and]
        exact hb
      rw [lb] at z
      exact z
/-! ### the papers that are asked -/
abbrev PapT := List (Int × Int) × Nat × Nat
def papT (p : PapT) : PyData := papD p.1 p.2.1 p.2.2
structure PapOk (n : Nat) (p : PapT) : Prop where
  ss : ssOk p.1
  ok : okB n p.1 p.2.1 p.2.2 = true
  i : p.2.1 ≤ 100
  j : p.2.2 ≤ 100
theorem PapOk.ask {ws : List (Int × Int)} {n : Nat} {p : PapT} (h : PapOk n p) : Ask ws n (clmD "lowers" ws) (papT p) (lowB ws n (some p)) :=
  Ask.lowers (Pap.ok (by have := h.ss.1; omega) h.i h.j) fun t ht => (h.ss.2 t ht).2.2
theorem PapOk.low {ws : List (Int × Int)} {n : Nat} {p : PapT} (h : PapOk n p) : lowB ws n (some p) = decide ((pullQ (partsL ws p.1) p.2.1 p.2.2).1 < 0) := by
  obtain ⟨ss, i, j⟩ := p
  show (okB n ss i j && _) = _
  rw [show okB n ss i j = true from h.ok, Bool.true_and]
def moreP (n : Nat) : Option (Nat × Nat × Nat) → Nat → List PapT
  | none, _ => []
  | some r, t => [(leanP n r.1 r.2.1 r.2.2 (2 ^ t), r.1, r.2.1)]
theorem some_list {ws : List (Int × Int)} {n : Nat} (h : Car ws n) : ∃ l : List PapT, l.length ≤ 1 ∧ (∀ p ∈ l, PapOk n p) ∧ ((isNon (lowD ws n) = true ∧ l = []) ∨ (isNon (lowD ws n) = false ∧ l.map papT = [lowD ws n])) := by
  have h4 := h.n4
  rcases low_cases h with ⟨hf, e⟩ | ⟨r, t, hf, ht, hb, e⟩
  · exact ⟨[], by decide, (fun p hp => by cases hp), .inl ⟨by rw [e]; rfl, rfl⟩⟩
  · obtain ⟨m1, m2, m3, _⟩ := first_mem h hf
    have ss := lean_ss (n := n) (i := r.1) (j := r.2.1) (s := r.2.2) h4 ht
    refine ⟨[(leanP n r.1 r.2.1 r.2.2 (2 ^ t), r.1, r.2.1)], Nat.le_refl _, fun p hp => ?_, .inr ⟨by rw [e]; rfl, by rw [e]; rfl⟩⟩
    rw [List.mem_singleton.mp hp]
    exact ⟨ss, okB_true ss (lean_len _ _ _ _ _) m1 m2 (show r.1 ≠ r.2.1 by omega), by show r.1 ≤ 100; omega, by show r.2.1 ≤ 100; omega⟩
theorem pair_ok (v : V3) {n : Nat} (h2 : 2 ≤ n) : (pairF v n).1.1 < n ∧ (pairF v n).1.2 < n ∧ (pairF v n).1.1 ≠ (pairF v n).1.2 := by
  have a := sip_lt v (z := n) (by omega)
  have b := sip_lt (sip v n).2 (z := n - 1) (by omega)
  unfold pairF
  generalize (sip v n).1 = x at *
  generalize (sip (sip v n).2 (n - 1)).1 = y at *
  refine ⟨a, Nat.mod_lt _ (by omega), ?_⟩
  show x ≠ (x + 1 + y) % n
  rcases Nat.lt_or_ge (x + 1 + y) n with q | q
  · rw [Nat.mod_eq_of_lt q]
    omega
  · rw [Nat.mod_eq_sub_mod q, Nat.mod_eq_of_lt (by omega)]
    omega
/-! ### what the last def leaves of its vat -/
def seatsL : List Nat := [1, 2, 3, 3, 3, 4]
def rB (v : V3) : KS := benchF (ofN v seatsL).2 (ofN v seatsL).1
def rW (v : V3) : KS := if (sip (rB v).2 4).1 = 0 then drawF (sip (rB v).2 4).2 else ((rB v).1, (sip (rB v).2 4).2)
def rM (v : V3) : Nat := if (sip (rB v).2 4).1 = 0 then 3 else (ofN v seatsL).1
def endF (v : V3) (n : Nat) : V3 := if n = 1 then v else stS doseF (pairF v n).2 n
def rightF (v : V3) : V3 := endF (rW v).2 (rM v)
theorem seats_ok (v : V3) : 1 ≤ (ofN v seatsL).1 ∧ (ofN v seatsL).1 ≤ 4 := by
  have z := ofN_mem (v := v) (l := seatsL) (by decide)
  generalize (ofN v seatsL).1 = w at *
  unfold seatsL at z
  simp only [List.mem_cons, List.not_mem_nil, or_false] at z
  omega
theorem rB_car (v : V3) : Car (rB v).1 (ofN v seatsL).1 := bench_car _ (seats_ok v).1 (seats_ok v).2
end Gu
end
section
set_option Elab.async false
set_option linter.all false
set_option maxRecDepth 100000
set_option maxHeartbeats 4000000
set_option exponentiation.threshold 20000
namespace Gu
open PySem PySem.Spec PyProof.Rows L2
def spRight (ms ds : List PyData) (d : PyData) (ms' : List PyData) : Prop := ∃ v : V3, ms = vD v ∧ ds = [] ∧ d = .bool true ∧ ms' = vD (rightF v)
abbrev nmR : List Str := ["_law_vat_here", "_law_weights", "_law_some_here", "_law_wrong", "_law_due_here", "_law_seats", "_law_pair", "_law_claims", "_law_one", "_law_two", "_law_each"]
theorem sc_right : FnScope nmR ["_law_vat_here"] (defScope (topS 203)) := fnsc (by kernel_rfl)
section
variable {G : Gv}
theorem k_lowering (c : Gd G) : DefK G.P G.w G.K G.mg G.base "lowering" 8 ["carrier"] (spD G.K fun ds d => ∃ ws n, Car ws n ∧ ds = [carD ws] ∧ d = lowD ws n) :=
  c.dk 30 rfl rfl (fun _ _ _ _ _ _ us hl => match us, hl with | [_], _ => rfl) (fo_lowering c)
theorem k_accepts (c : Gd G) : DefK G.P G.w G.K G.mg G.base "accepts" 10 ["claim", "paper"] (spD G.K spAsk) :=
  c.dk 37 rfl rfl (fun _ _ _ _ _ _ us hl => match us, hl with | [_, _], _ => rfl) (fo_accepts c)
/-- behind the weights -/
theorem right_tail (c : Gd G) {i : Bi} (hn : nmR.Nodup) (hgu : (bX G nmR "_law_right" (defScope (topS 203)) i).A.guards = some []) (hr : Room 10 (bX G nmR "_law_right" (defScope (topS 203)) i).A) {ws : List (Int × Int)} {n : Nat} (h : Car ws n) (v : V3) :
    Ws (bX G nmR "_law_right" (defScope (topS 203)) i) ((defBody (topS 203)).drop 2) [.mut 0, .dat (carD ws), .un, .un, .un, .un, .un, .un, .un, .un, .un] [vD v] (givesV (.bool true) (vD (endF v n))) := by
  have h1 := h.n1
  have h4 := h.n4
  have hu : (bX G nmR "_law_right" (defScope (topS 203)) i).A.units + 100 < cLine := by have := hr.un; omega
  have rl := rp_low h
  refine ws_par (i := 4) (j := 5) (eva_cons (ev_call (d_ldue c) (hr.mono (by decide)) (evd_cons (ev_v 1) evd_nil) ⟨ws, n, h, rfl, rfl⟩) (eva_cons (ev_call (d_lcount c) (hr.mono (by decide)) (evd_cons (ev_v 1) evd_nil) ⟨ws, n, h, rfl, rfl⟩) eva_nil)) ?_ rfl hn
  have r2 : Rp (.list [lowD ws n, lowD ws n]) 6300 4 := (rp_list (rpl_cons rl (rpl_cons rl rpl_nil (V := 0)))).up (by decide) (by decide)
  refine ws_ifr (k := false) (μ1 := [vD v]) (evt_is (evt_neS (ev_reprW hgu hu (c.fr 91) r2 rfl (by decide) (by decide) (ev_lst (evd_cons (ev_call (d_lowering c) (hr.mono (by decide)) (evd_cons (ev_v 1) evd_nil) ⟨ws, n, h, rfl, rfl⟩) (evd_cons (ev_callK (ds := [carD ws]) (k_lowering c) (hr.mono (by decide)) (evk_cons (ev_v 1) evk_nil) ⟨ws, n, h, rfl, rfl⟩) evd_nil)))) (ev_reprW hgu hu (c.fr 91) r2 rfl (by decide) (by decide) (ev_lst (evd_cons (ev_v 4) (evd_cons (ev_v 4) evd_nil))))) (by simp)) (fun z => by cases z) fun _ => ?_
  obtain ⟨w, q, ec, ak, wq⟩ := cert_ok h
  have hw : w = "draws" ∨ w = "lowers" := wq.imp (fun z => z.2.1) fun z => z.2
  refine ws_asg (d := .tuple [.tuple [clmD w ws, q], .list [clmD "draws" ws, clmD "lowers" ws]]) (μ' := [vD v]) (ev_tup (evd_cons (ev_is (ev_call (d_certify c) (hr.mono (by decide)) (evd_cons (ev_v 1) evd_nil) ⟨ws, n, h, rfl, rfl⟩) (congrArg Slot.dat ec)) (evd_cons (ev_lst (evd_cons (ev_tup (evd_cons ev_str (evd_cons (ev_v 1) evd_nil))) (evd_cons (ev_tup (evd_cons ev_str (evd_cons (ev_v 1) evd_nil))) evd_nil))) evd_nil))) (evg_two rfl (evg_name (i := 6) hn) (evg_name (i := 7) hn)) ?_
  refine ws_ifr (k := false) (μ1 := [vD v]) (evt_of (evw_or' (k := false) (l := false) (evt_not (k := true) (evt_val (ev_isi (d := .tuple [clmD w ws, q]) (T := "tuple") (c.fr 76) (c.fr 79) boot_tuple0 rfl (ev_v 6)))) fun _ => evw_or' (k := false) (l := false) (evt_is (evt_ne (ev_len (ds := [clmD w ws, q]) sq_t (c.fr 80) (ev_v 6)) ev_int) rfl) fun _ =>
    evw_or1 (evt_is (evt_notB (k := true) (l := true) (ev_call (d_accepts c) hr (evd_cons (ev_ixT (ds := [clmD w ws, q]) (ev_v 6) ev_int) (evd_cons (ev_ixT (ds := [clmD w ws, q]) (ev_v 6) ev_int) evd_nil)) ⟨ws, n, _, q, true, h, ak, rfl, rfl⟩) ev_bl) rfl))) (fun z => by cases z) fun _ => ?_
  have ix : ([clmD "draws" ws, clmD "lowers" ws] : List PyData)[(if isNon (lowD ws n) = true then (0 : Int) else 1).toNat]? = some (clmD w ws) := by
    rcases wq with ⟨e, rfl, _⟩ | ⟨e, rfl⟩
    · rw [if_pos e]
      rfl
    · rw [if_neg (by rw [e]; exact Bool.false_ne_true)]
      rfl
  have ix0 : (0 : Int) ≤ (if isNon (lowD ws n) = true then (0 : Int) else 1) := by split <;> decide
  have rw_ := rp_clm h hw
  refine ws_ifr (k := false) (μ1 := [vD v]) (evt_of (evw_or' (k := false) (l := false) (evt_is (evt_neS (ev_reprW hgu hu (c.fr 91) rw_ rfl (by decide) (by decide) (ev_ixT (ds := [clmD w ws, q]) (ev_v 6) ev_int)) (ev_reprW hgu hu (c.fr 91) rw_ rfl (by decide) (by decide) (ev_ixL (ds := [clmD "draws" ws, clmD "lowers" ws]) (ev_v 7) (ev_if (k := isNon (lowD ws n)) (evt_isN (ev_v 4) ev_non) (fun e => by rw [if_pos e]; exact ev_int) (fun e => by rw [if_neg (by rw [e]; exact Bool.false_ne_true)]; exact ev_int)) ix ix0))) (by simp)) fun _ =>
    evw_or1 (evt_of (evw_and (k := isNon (lowD ws n)) (evt_isN (ev_v 4) ev_non) (fun e => evw_and1 ?_) fun _ => ⟨rfl, rfl⟩)))) (fun z => by cases z) fun _ => ?_
  · rcases wq with ⟨_, _, rfl⟩ | ⟨e2, _⟩
    · exact evt_is (evt_neS (ev_reprW hgu hu (c.fr 91) (rp_tuple (rpl_nil (W := 0) (D := 0))) rfl (by decide) (by decide) (ev_ixT (ds := [clmD w ws, .tuple []]) (ev_v 6) ev_int)) ev_str) (by decide +kernel)
    · rw [e2] at e
      cases e
  have low0 : Ask ws n (clmD "lowers" ws) (.tuple []) false := Ask.lowers (o := none) (Pap.len (by decide)) trivial
  refine ws_ifr (k := false) (μ1 := [vD v]) (evt_of (evw_or' (k := false) (l := false) (evt_is (evt_neS (ev_reprW hgu hu (c.fr 91) (rp_bool (b := (firstP ws n).isNone) (D := 0)) rfl (by decide) (by decide) (ev_callK (ds := [clmD "draws" ws, .tuple []]) (k_accepts c) hr (evk_cons (ev_ixL (ds := [clmD "draws" ws, clmD "lowers" ws]) (ev_v 7) ev_int) (evk_cons (ev_tup evd_nil) evk_nil)) ⟨ws, n, _, _, _, h, .draws, rfl, rfl⟩)) (ev_reprW hgu hu (c.fr 91) (rp_bool (b := isNon (lowD ws n)) (D := 0)) rfl (by decide) (by decide) (ev_isN (ev_v 4) ev_non))) (by rw [lowD_none h]; simp)) fun _ =>
    evw_or1 (evt_is (evt_notB (k := false) (l := false) (ev_call (d_accepts c) hr (evd_cons (ev_ixL (ds := [clmD "draws" ws, clmD "lowers" ws]) (ev_v 7) ev_int) (evd_cons (ev_tup evd_nil) evd_nil)) ⟨ws, n, _, _, _, h, low0, rfl, rfl⟩) ev_bl) rfl))) (fun z => by cases z) fun _ => ?_
  refine ws_ifr (k := decide (n = 1)) (evt_is (evt_eq (i := ((n : Nat) : Int)) (j := 1) (ev_v 5) ev_int) (by rw [Bool.eq_iff_iff]; simp only [decide_eq_true_eq]; omega)) (fun hk => ?_) fun hk => ?_
  · have n1 : n = 1 := of_decide_eq_true hk
    have ee : endF v n = v := by
      unfold endF
      rw [if_pos n1]
    rw [ee]
    have ak1 : Ask ws n (clmD "lowers" ws) (papD [(1, 1)] 0 0) false := by
      have z := Ask.lowers (ws := ws) (n := n) (Pap.ok (n := n) (ss := [(1, 1)]) (i := 0) (j := 0) (by decide) (by decide) (by decide)) (fun t ht => by
        rw [List.mem_singleton.mp ht]
        exact one_str.2.2)
      have lb : lowB ws n (some ([(1, 1)], 0, 0)) = false := by
        show (okB n _ 0 0 && _) = false
        rw [okB_same, Bool.false_and]
      rw [lb] at z
      exact z
    exact ws_ret (μ' := [vD v]) (ev_is (ev_isB (k := false) (l := false) (ev_call (d_accepts c) hr (evd_cons (ev_ixL (ds := [clmD "draws" ws, clmD "lowers" ws]) (ev_v 7) ev_int) (evd_cons (ev_tup (evd_cons (ev_tup (evd_cons (ev_tup (evd_cons ev_int (evd_cons ev_int evd_nil))) evd_nil)) (evd_cons ev_int (evd_cons ev_int evd_nil)))) evd_nil)) ⟨ws, n, _, papD [(1, 1)] 0 0, false, h, ak1, rfl, rfl⟩) ev_bl) rfl) ⟨rfl, rfl⟩
  · have n2 : 2 ≤ n := by
      have : ¬ n = 1 := of_decide_eq_false hk
      omega
    have ee : endF v n = stS doseF (pairF v n).2 n := by
      unfold endF
      rw [if_neg (by omega)]
    rw [ee]
    obtain ⟨pi, pj, pij⟩ := pair_ok v n2
    refine ws_asg (d := npD (pairF v n).1) (μ' := [vD (pairF v n).2]) (ev_callV (j := 0) (ms' := vD (pairF v n).2) (d := npD (pairF v n).1) (μ' := [vD v]) (ds := [natD n]) (d_lpair c) (hr.mono (by decide)) (eva_cons (ev_v 0) (eva_cons (ev_v 5) eva_nil)) rfl ⟨v, n, n2, by omega, rfl, rfl, rfl, rfl⟩) (evg_two rfl (evg_name (i := 8) hn) (evg_name (i := 9) hn)) ?_
    generalize (pairF v n).1 = pr2 at *
    obtain ⟨s1, s2⟩ := pr2
    generalize (pairF v n).2 = v2
    have so := own_ok v2 h4
    have sl : (stF doseF v2 n).length = n := stF_len _ _ _
    obtain ⟨l, l1, lo, lq⟩ := some_list h
    have o1 : PapOk n (stF doseF v2 n, s1, s2) := ⟨so, okB_true so sl pi pj pij, by show s1 ≤ 100; have : s1 < n := pi; omega, by show s2 ≤ 100; have : s2 < n := pj; omega⟩
    have o2 : PapOk n (List.replicate n (1, 1), s1, s2) := ⟨ones_ok h4, okB_true (ones_ok h4) List.length_replicate pi pj pij, o1.i, o1.j⟩
    generalize hss : stF doseF v2 n = ss at *
    generalize hs3 : stS doseF v2 n = v3
    have okL : ∀ p ∈ ((ss, s1, s2) :: (List.replicate n (1, 1), s1, s2) :: l), PapOk n p := fun p hp => by
      rcases List.mem_cons.mp hp with rfl | hp
      · exact o1
      · rcases List.mem_cons.mp hp with rfl | hp
        · exact o2
        · exact lo p hp
    have e1n : StrD (List.replicate n (1, 1)) = .tuple (List.replicate ((n : Nat) : Int).toNat [pp (1, 1)]).flatten := by
      unfold StrD
      rw [Int.toNat_natCast, rep_one, List.map_replicate]
    have catl : small ([papD ss s1 s2, papD (List.replicate n (1, 1)) s1 s2].length + (l.map papT).length) := by
      rw [List.length_map]
      show 2 + l.length ≤ 100000
      omega
    refine ws_set (i := 2) (s := .dat (.list (((ss, s1, s2) :: (List.replicate n (1, 1), s1, s2) :: l : List PapT).map papT))) (μ' := [vD v3]) (ev_is (ev_cat (ds := [papD ss s1 s2, papD (List.replicate n (1, 1)) s1 s2]) (es' := l.map papT) catl
      (ev_lst (evd_cons (ev_tup (evd_cons (ev_callV (j := 0) (ms' := vD v3) (d := StrD ss) (μ' := [vD v2]) (ds := [natD n]) (d_lowns c) (hr.mono (by decide)) (eva_cons (ev_v 0) (eva_cons (ev_v 5) eva_nil)) rfl ⟨v2, n, by omega, rfl, rfl, by rw [hss], by rw [hs3]⟩) (evd_cons (ev_v 8) (evd_cons (ev_v 9) evd_nil))))
        (evd_cons (ev_tup (evd_cons (ev_is (ev_repT (j := ((n : Nat) : Int)) (ds := [pp (1, 1)]) (by omega) (by omega) (by simp) (by decide) (ev_tup (evd_cons (ev_tup (evd_cons ev_int (evd_cons ev_int evd_nil))) evd_nil)) (ev_v 5)) (congrArg Slot.dat e1n.symm)) (evd_cons (ev_v 8) (evd_cons (ev_v 9) evd_nil)))) evd_nil)))
      (ev_if (k := isNon (lowD ws n)) (evt_isN (ev_v 4) ev_non) (fun e => ?_) fun e => ?_)) rfl) ?_ hn
    · rcases lq with ⟨_, rfl⟩ | ⟨e2, _⟩
      · exact ev_lst evd_nil
      · rw [e2] at e
        cases e
    · rcases lq with ⟨e2, _⟩ | ⟨_, e2⟩
      · rw [e2] at e
        cases e
      · rw [e2]
        exact ev_lst (evd_cons (ev_v 4) evd_nil)
    have mapE : (((ss, s1, s2) :: (List.replicate n (1, 1), s1, s2) :: l : List PapT).map fun p => PyData.bool (lowB ws n (some p))) = ((ss, s1, s2) :: (List.replicate n (1, 1), s1, s2) :: l : List PapT).map fun p => PyData.bool (decide ((pullQ (partsL ws p.1) p.2.1 p.2.2).1 < 0)) := List.map_congr_left fun p hp => by rw [(okL p hp).low]
    have lenL : ((ss, s1, s2) :: (List.replicate n (1, 1), s1, s2) :: l : List PapT).length ≤ 3 := by
      show l.length + 1 + 1 ≤ 3
      omega
    have hd0 : (((ss, s1, s2) :: (List.replicate n (1, 1), s1, s2) :: l : List PapT).map papT)[(0 : Int).toNat]? = some (papD ss s1 s2) := rfl
    generalize ((ss, s1, s2) :: (List.replicate n (1, 1), s1, s2) :: l : List PapT) = L at *
    have rpB : Rp (.list (L.map fun p => PyData.bool (decide ((pullQ (partsL ws p.1) p.2.1 p.2.2).1 < 0)))) 3 1 := (rp_list (rpl_map (W := 0) (D := 0) fun u hu => rp_bool)).up (by omega) (by decide)
    refine ws_ifr (k := false) (μ1 := [vD v3]) (evt_is (evt_neS (ev_reprW hgu hu (c.fr 91) rpB rfl (by decide) (by decide) (ev_is (ev_lcMap (l := L) (g := papT) (f := fun p => .bool (lowB ws n (some p))) (j := 10) rfl hn (evi_l (ev_v 2)) (Nat.le_trans lenL (by decide)) fun u hu b => ev_call (d_accepts c) hr (evd_cons (ev_ixL (ds := [clmD "draws" ws, clmD "lowers" ws]) (ev_v 7) ev_int) (evd_cons (ev_v 10) evd_nil)) ⟨ws, n, _, _, _, h, (okL u hu).ask, rfl, rfl⟩) (by rw [mapE])))
      (ev_reprW hgu hu (c.fr 91) rpB rfl (by decide) (by decide) (ev_lcMap (l := L) (g := papT) (f := fun p => .bool (decide ((pullQ (partsL ws p.1) p.2.1 p.2.2).1 < 0))) (j := 10) rfl hn (evi_l (ev_v 2)) (Nat.le_trans lenL (by decide)) fun u hu b => ev_call (d_llowers c) (hr.mono (by decide)) (evd_cons (ev_v 1) (evd_cons (ev_v 10) evd_nil)) ⟨ws, n, u.1, u.2.1, u.2.2, h, (okL u hu).ss, (okL u hu).i, (okL u hu).j, rfl, rfl⟩))) (by simp)) (fun z => by cases z) fun _ => ?_
    have sdrop : StrD (ss.drop 1) = .tuple ((ss.map pp).drop 1) := by
      unfold StrD
      rw [List.map_drop]
    have sz : ∀ t ∈ ss, Szp 300 t := fun t ht => (so.2 t ht).2.2
    have s1l : s1 ≤ 100 := o1.i
    have s2l : s2 ≤ 100 := o1.j
    have ssl : ss.length ≤ 100 := by omega
    refine ws_set (i := 3) (s := .dat (.list [papD ss s1 s1, papD (ss.drop 1) s1 s2, .tuple [.list (ss.map pp), natD s1, natD s2], .tuple [StrD ss, natD s1]])) (μ' := [vD v3]) (ev_lst
      (evd_cons (ev_tup (evd_cons (ev_ixT (ds := [StrD ss, natD s1, natD s2]) (ev_ixL (ds := L.map papT) (ev_v 2) ev_int hd0) ev_int) (evd_cons (ev_v 8) (evd_cons (ev_v 8) evd_nil))))
      (evd_cons (ev_tup (evd_cons (ev_is (ev_fromT (k := 1) (ds := ss.map pp) (by decide) (by rw [List.length_map]; omega) (ev_ixT (ds := [StrD ss, natD s1, natD s2]) (ev_ixL (ds := L.map papT) (ev_v 2) ev_int hd0) ev_int) ev_int) (congrArg Slot.dat sdrop.symm)) (evd_cons (ev_v 8) (evd_cons (ev_v 9) evd_nil))))
      (evd_cons (ev_tup (evd_cons (ev_list (ds := ss.map pp) sq_t (c.fr 85) (ev_ixT (ds := [StrD ss, natD s1, natD s2]) (ev_ixL (ds := L.map papT) (ev_v 2) ev_int hd0) ev_int)) (evd_cons (ev_v 8) (evd_cons (ev_v 9) evd_nil))))
      (evd_cons (ev_toT (k := 2) (ds := [StrD ss, natD s1, natD s2]) (Nat.lt_succ_self 2) (ev_ixL (ds := L.map papT) (ev_v 2) ev_int hd0) ev_int) evd_nil))))) ?_ hn
    have wrong : ∀ u ∈ [papD ss s1 s1, papD (ss.drop 1) s1 s2, .tuple [.list (ss.map pp), natD s1, natD s2], .tuple [StrD ss, natD s1]], Ask ws n (clmD "lowers" ws) u false := fun u hu => by
      simp only [List.mem_cons, List.not_mem_nil, or_false] at hu
      rcases hu with rfl | rfl | rfl | rfl
      · have z := Ask.lowers (ws := ws) (n := n) (Pap.ok (n := n) (ss := ss) (i := s1) (j := s1) ssl s1l s1l) sz
        have lb : lowB ws n (some (ss, s1, s1)) = false := by
          show (okB n _ s1 s1 && _) = false
          rw [okB_same, Bool.false_and]
        rw [lb] at z
        exact z
      · have z := Ask.lowers (ws := ws) (n := n) (Pap.ok (n := n) (ss := ss.drop 1) (i := s1) (j := s2) (by rw [List.length_drop]; omega) s1l s2l) fun t ht => sz t (List.mem_of_mem_drop ht)
        have lb : lowB ws n (some (ss.drop 1, s1, s2)) = false := by
          show (okB n _ s1 s2 && _) = false
          rw [okB_short (by rw [List.length_drop]; omega), Bool.false_and]
        rw [lb] at z
        exact z
      · exact Ask.lowers (o := none) Pap.lst trivial
      · exact Ask.lowers (o := none) (Pap.len (by simp)) trivial
    have wlen : ([papD ss s1 s1, papD (ss.drop 1) s1 s2, .tuple [.list (ss.map pp), natD s1, natD s2], .tuple [StrD ss, natD s1]] : List PyData).length ≤ 4 := Nat.le_refl _
    generalize [papD ss s1 s1, papD (ss.drop 1) s1 s2, .tuple [.list (ss.map pp), natD s1, natD s2], .tuple [StrD ss, natD s1]] = W at *
    refine ws_ret (s := .dat (.bool true)) (μ' := [vD v3]) (ev_is (ev_eqD (d := .list []) (d' := .list []) (by omega) rfl rfl (ev_is (ev_lcFilter (l := W) (g := id) (f := id) (kp := fun _ => false) (j := 10) rfl hn (evi_l (ev_is (ev_v 3) (by rw [List.map_id]))) (Nat.le_trans wlen (by decide)) fun u hu => ⟨fun b => evf_one (evt_is (evt_notB (k := false) (l := false) (ev_call (d_accepts c) hr (evd_cons (ev_ixL (ds := [clmD "draws" ws, clmD "lowers" ws]) (ev_v 7) ev_int) (evd_cons (ev_v 10) evd_nil)) ⟨ws, n, _, _, _, h, wrong u hu, rfl, rfl⟩) ev_bl) rfl), fun z => by cases z⟩) ?_) (ev_lst evd_nil)) rfl) ⟨rfl, rfl⟩
    have e : W.filter (fun _ => false) = [] := List.filter_eq_nil_iff.mpr fun _ _ z => by cases z
    rw [e]
    rfl
/-- the weights -/
theorem dn_right (c : Gd G) : DefNG G "_law_right" 11 (spV G.K spRight) :=
  c.dn 71 (ps := ["_law_vat_here"]) rfl rfl (fun _ _ _ _ _ _ us hl => match us, hl with | [_], _ => rfl) fun f fd F =>
    fnG_vat F sc_right (fun ms ds d ms' ⟨_, _, e, _⟩ => by rw [e]; rfl) fun i ms ds d ms' hn hgu hr ⟨v, e0, e1, e2, e3⟩ => by
      subst e0 e1 e2 e3
      obtain ⟨so1, so2⟩ := seats_ok v
      have car := rB_car v
      have er : rightF v = endF (if (sip (rB v).2 4).1 = 0 then drawF (sip (rB v).2 4).2 else ((rB v).1, (sip (rB v).2 4).2)).2 (if (sip (rB v).2 4).1 = 0 then 3 else (ofN v seatsL).1) := rfl
      rw [er]
      refine ws_set (i := 1) (s := .dat (carD (rB v).1)) (μ' := [vD (rB v).2]) (ev_callV (j := 0) (ms' := vD (rB v).2) (d := carD (rB v).1) (μ' := [vD (ofN v seatsL).2]) (ds := [natD (ofN v seatsL).1]) (d_lbench c) (hr.mono (by decide)) (eva_cons (ev_v 0) (eva_cons (ev_callV (j := 0) (ms' := vD (ofN v seatsL).2) (d := natD (ofN v seatsL).1) (μ' := [vD v]) (ds := [.list (seatsL.map natD)]) (d_lof c) (hr.mono (by decide)) (eva_cons (ev_v 0) (eva_cons (ev_lst (evd_cons ev_int (evd_cons ev_int (evd_cons ev_int (evd_cons ev_int (evd_cons ev_int (evd_cons ev_int evd_nil))))))) eva_nil)) rfl (spOf_map (u := 1) (by decide) (by decide))) eva_nil)) rfl ⟨_, _, so1, so2, rfl, rfl, rfl, rfl⟩) ?_ hn
      generalize rB v = st at *
      obtain ⟨ws, v1⟩ := st
      generalize (ofN v seatsL).1 = n at *
      refine ws_if (k := decide ((sip v1 4).1 = 0)) (μ1 := [vD (sip v1 4).2]) (evt_is (evt_eq (i := ((sip v1 4).1 : Nat)) (j := 0) (ev_callV (j := 0) (ms' := vD (sip v1 4).2) (d := natD (sip v1 4).1) (μ' := [vD v1]) (ds := [natD 4]) (d_lsip c) (hr.mono (by decide)) (eva_cons (ev_v 0) (eva_cons ev_int eva_nil)) rfl ⟨v1, 4, by decide, by decide, rfl, rfl, rfl, rfl⟩) ev_int) (by rw [Bool.eq_iff_iff]; simp only [decide_eq_true_eq]; omega)) (fun hk => ?_) fun hk => ?_
      · rw [if_pos (of_decide_eq_true hk), if_pos (of_decide_eq_true hk)]
        exact ws_set (i := 1) (s := .dat (carD (drawF (sip v1 4).2).1)) (μ' := [vD (drawF (sip v1 4).2).2]) (ev_callV (j := 0) (ms' := vD (drawF (sip v1 4).2).2) (d := carD (drawF (sip v1 4).2).1) (μ' := [vD (sip v1 4).2]) (ds := [natD 3]) (d_ldrawing c) (hr.mono (by decide)) (eva_cons (ev_v 0) (eva_cons ev_int eva_nil)) rfl ⟨_, rfl, rfl, rfl, rfl⟩) (ws_nil (right_tail c hn hgu hr (draw_car _) _)) hn
      · rw [if_neg (of_decide_eq_false hk), if_neg (of_decide_eq_false hk)]
        exact ws_nil (right_tail c hn hgu hr car _)
/-- the law -/
def spLaw (ns : List Int) (ds : List PyData) (d : PyData) : Prop := ns.length ≤ 100 ∧ ds = [] ∧ d = .bool true
theorem fg_law (c : Gd G) (f : Addr) (fd : FuncData) (F : FunD G.K "law" "law" (defArgs (topS 204)) (defBody (topS 204)) (defScope (topS 204)) [] [] f fd) : FnG G.P G.w G.K G.mg G.base 12 f fd ["_law_script"] (spS G.K spLaw) :=
    fnG_scr F (N := ["_law_script", "_law_lap"]) (fnsc (by kernel_rfl)) (fun ns ds d ⟨_, e, _⟩ => by rw [e]; rfl) fun i ns ds d hn hgu hr ⟨hl, e1, e2⟩ => by
      subst e1 e2
      have l3 : max 2 (min ns.length 3) ≤ 3 := by omega
      generalize em : max 2 (min ns.length 3) = m at l3
      refine ws_ret (s := .dat (.bool true)) (μ' := (List.range m).map fun k => vD (rightF (vat0 ns k))) (ev_is (ev_allM (l := List.range m) (q := fun _ => true) rfl (c.fr 81) (ev_is (ev_lc (n := m) (j := 1) (M := fun k => (List.range k).map fun i => vD (rightF (vat0 ns i))) (keep := fun _ => true) (val := fun _ => .bool true) rfl hn
        (evi_l (ds := (List.range m).map natD) (ev_callS (ds := [.int 3]) (d_llaps c) (hr.mono (by decide)) (eva_cons (ev_v 0) (eva_cons ev_int eva_nil)) ⟨hl, rfl, by rw [em]⟩)) (by rw [List.length_map, List.length_range]) (Nat.le_trans l3 (by decide)) (fun k d hd => ?_) (hj := Nat.lt_of_sub_eq_succ rfl)) (by rw [picked_true]))) ?_) rfl
      · obtain ⟨u, hu, rfl⟩ := map_inv hd
        obtain ⟨rfl, hum⟩ := range_inv hu
        have e : ((List.range u).map (fun i => vD (rightF (vat0 ns i))) ++ [vD (vat0 ns u)]).set ((List.range u).map (fun i => vD (rightF (vat0 ns i)))).length (vD (rightF (vat0 ns u))) = (List.range (u + 1)).map fun i => vD (rightF (vat0 ns i)) := by
          rw [last_set, List.range_succ, List.map_append]
          rfl
        exact ⟨_, fun b => evf_nil, (fun z => Bool.noConfusion z), fun _ b => ev_mu (ev_callVG (ds := []) (ms := vD (vat0 ns u)) (ms' := vD (rightF (vat0 ns u))) (dn_right c) hgu hr (eva_cons (ev_callN (ds := [natD u]) (d_lvat c) (hr.mono (by decide)) (eva_cons (ev_v 0) (eva_cons (ev_v 1) eva_nil)) ⟨u, rfl, rfl⟩) eva_nil) last_at ⟨_, rfl, rfl, rfl, rfl⟩) e⟩
      · have z : (List.range m).all (fun _ => true) = true := List.all_eq_true.mpr fun _ _ => rfl
        rw [z]
end
end Gu
end
section
set_option Elab.async false
set_option linter.all false
set_option maxRecDepth 100000
set_option maxHeartbeats 2000000
namespace Gu
open PySem PySem.Spec PyProof.Rows L2
/-! ### the law's call, at the heap behind the top -/
section
variable {P : Program} {w : World} {K : PySem.W.Frag} {mg mb : Str → Option Value} {s : Shared} {H : Hp} {a fa : Addr} {vs : List Value} {ns : List Int} {fd : FuncData} {x : Str} {k : Nat}
theorem env_at (KX : K.In s.heap) (hns : s.heap.Ns mainGlobals mg) (hb : s.heap.Ns builtinsNs mb) (hbb : ∀ x : Str, x ≠ "__name__" → mb x = bootBuiltins x) (hlim : s.heap.NoLimit) (hg : s.gens = #[])
    (ha : s.heap.get? a = some { cls := .type "list", data := .seq vs.toArray }) (hok : HOk P w H s.heap) (only : ∀ b u, H b = some u → b = a ∧ K.lookup a = none) : Env0 P w K mg (hidT s.heap H) callerA [] s H := by
  have carry : ∀ {b : Addr} {m : Str → Option Value}, s.heap.Ns b m → (hidT s.heap H).Ns b m := fun {b m} z => by
    obtain ⟨o, es, ep, e, d, r⟩ := z
    refine ⟨o, es, ep, hidT_get e ?_, d, r⟩
    cases q : H b with
    | none => rfl
    | some u =>
      rw [(only b u q).1, ha] at e
      rw [← Option.some.inj e] at d
      cases d
  have kin : K.In (hidT s.heap H) := fun b o e => hidT_get (KX b o e) (by
    cases q : H b with
    | none => rfl
    | some u =>
      obtain ⟨z1, z2⟩ := only b u q
      rw [z1, z2] at e
      cases e)
  obtain ⟨mc, l1, l2⟩ := hlim
  exact { frames := rfl, mod := ⟨kin, carry hns, ⟨mb, carry hb, hbb⟩, ⟨mc, carry l1, l2⟩⟩, bs := fun b o e => of_hidT e, bsz := by rw [hidT_size]; exact Nat.le_refl _, funs := trivial, frf := (fun b z => by cases z), hok := hok, bare := .of_eq hg }
/-- from an abstract heap in which the script alone may stand -/
theorem go_at (F : ∀ base : Heap, FnG P w K mg base k fa fd [x] (spS K spLaw)) (hr : Room k callerA) (hbind : BindsTo s fd ⟨[.ref a], []⟩ [(x, .ref a)]) (e0 : Env0 P w K mg (hidT s.heap H) callerA [] s H) (hok : HOk P w H s.heap) (hS : SqL K H a (ns.map V.int)) (hl : ns.length ≤ 100)
    (only : ∀ b u, H b = some u → ∃ o xs, u = .frz o (.lst xs)) : codeAny (model P w) callerA (.call (.ref fa) ⟨[.ref a], []⟩) (fun r s' => r = .ok (.ret (.bool true)) ∧ OldK s.heap s'.heap ∧ s'.os = s.os ∧ AllBare s'.gens) s := by
  have sp : spS K spLaw [.ref a] H (fun v _ => v = .bl true) fun _ _ _ => False := ⟨H, a, [], ns, [], .bool true, rfl, hS, Same.refl _, .nil, ⟨hl, rfl, rfl⟩, fun v D' H' _ _ _ _ z => by
    cases z
    rfl⟩
  refine codeAny_mono ((F _).go callerA [] s H ⟨[.ref a], []⟩ [.ref a] [.ref a] _ _ rfl hr e0 hbind (.cons rfl .nil) sp) fun r t z => ?_
  cases r with
  | error e => exact False.elim z
  | ok fl =>
    cases fl with
    | ret u =>
      obtain ⟨v, H', os, bare, un, hk', rv, q⟩ := z
      rw [show v = V.bl true from q] at rv
      have eu : u = Value.bool true := rv
      rw [eu]
      refine ⟨rfl, .of_keep fun b o e => ?_, os, bare⟩
      cases q : H b with
      | none => exact un.keep b o e q (fun y => by cases y) (fun y => by cases y)
      | some y =>
        obtain ⟨ob, xs, rfl⟩ := only b y q
        have z1 := (hok b _ q).1
        have z2 := (hk' b _ (un.frzs b ob _ q)).1
        rw [z1] at e
        rw [← Option.some.inj e]
        exact z2
    | next => exact False.elim z
    | brk => exact False.elim z
    | cont => exact False.elim z
theorem law_at (KX : K.In s.heap) (hns : s.heap.Ns mainGlobals mg) (hb : s.heap.Ns builtinsNs mb) (hbb : ∀ x : Str, x ≠ "__name__" → mb x = bootBuiltins x) (hlim : s.heap.NoLimit) (hg : s.gens = #[])
    (ha : s.heap.get? a = some { cls := .type "list", data := .seq vs.toArray }) (hi : IntsAre vs ns) (hl : ns.length ≤ 100) (F : ∀ base : Heap, FnG P w K mg base k fa fd [x] (spS K spLaw)) (hr : Room k callerA) (hbind : BindsTo s fd ⟨[.ref a], []⟩ [(x, .ref a)]) :
    codeAny (model P w) callerA (.call (.ref fa) ⟨[.ref a], []⟩) (fun r s' => r = .ok (.ret (.bool true)) ∧ OldK s.heap s'.heap ∧ s'.os = s.os ∧ AllBare s'.gens) s := by
  have rv := vals_ints hi
  have ll : vs.length ≤ sizeLine := by
    rw [hi.length]
    exact Nat.le_trans hl (by decide)
  cases q : K.lookup a with
  | some o =>
    have e := KX a o q
    rw [ha] at e
    have eo := Option.some.inj e
    subst eo
    have ok : HOk P w (fun _ => none) s.heap := fun b u z => by cases z
    have on : ∀ (b : Addr) (u : HO), (fun _ : Addr => (none : Option HO)) b = some u → b = a ∧ K.lookup a = none := fun b u z => by cases z
    exact go_at F hr hbind (env_at KX hns hb hbb hlim hg ha ok on) ok (.inr ⟨_, vs.toArray, _, q, rfl, rfl, rfl, by rw [List.size_toArray]; exact ll, by simpa using rv⟩) hl fun b u z => by cases z
  | none =>
    have at_ : ∀ (b : Addr) (u : HO), (fun b : Addr => if b = a then some (HO.frz { cls := .type "list", data := .seq vs.toArray } (.lst (ns.map V.int))) else none) b = some u → b = a ∧ u = .frz { cls := .type "list", data := .seq vs.toArray } (.lst (ns.map V.int)) := fun b u z => by
      have z' : (if b = a then some (HO.frz { cls := .type "list", data := .seq vs.toArray } (.lst (ns.map V.int))) else none) = some u := z
      split at z'
      · rename_i hba
        exact ⟨hba, (Option.some.inj z').symm⟩
      · cases z'
    have ok : HOk P w (fun b : Addr => if b = a then some (HO.frz { cls := .type "list", data := .seq vs.toArray } (.lst (ns.map V.int))) else none) s.heap := fun b u z => by
      obtain ⟨rfl, rfl⟩ := at_ b u z
      exact ⟨ha, by rw [List.length_map, ← hi.length]; exact ll, vs, _, rv, ha⟩
    exact go_at F hr hbind (env_at KX hns hb hbb hlim hg ha ok fun b u z => ⟨(at_ b u z).1, q⟩) ok (.inl (.inr ⟨_, if_pos rfl⟩)) hl fun b u z => ⟨_, _, (at_ b u z).2⟩
end
theorem walk_ofG {l : PySem.W.OpenLaw} {n : Nat} {q : Program} {loose : List Str} {XP : (Str → Option Value) → Heap → Prop} {d : DefRec} (hn : l.most = some n) (hn2 : n ≤ 100) (hdf : d.params.defaults = []) (hd : d.name = "law") :
    PySem.W.WalkO q loose XP (fun (_ : World) h => ∃ K : PySem.W.Frag, K.In h ∧ He.SaysD fgA fnA K ∧ exB K = true) l.row.toRowW d [] (fun f vs => PySem.call f vs) := by
  refine Att.attach_call hn hdf fun w s₀ s₁ mg mb fa o pm cd doc a vs ns G Y ho hdat hcd hmg hobj hints hlen hg => ?_
  obtain ⟨K, KX, cD, ex⟩ := Y
  have c : ∀ base : Heap, Gd ⟨l.prog, w, K, mg, base⟩ := fun base => ⟨cD, ⟨_, KX, G.T.g⟩, ex⟩
  have ge : mg "law" = some (.ref (He.ga K "law")) := (c {}).glo 72
  rw [hd, ge] at hmg
  have fe : He.ga K "law" = fa := by
    have := Option.some.inj hmg
    injection this
  subst fe
  obtain ⟨fd, f⟩ := cD.def_ 72 (d := dd "law" 204) rfl
  refine law_at (x := "_law_script") (k := 12) KX G.T.g G.T.b G.T.builtins G.T.nolimit hg hobj hints (Nat.le_trans hlen hn2) (fun base => fg_law (c base) _ fd f) ?_ ?_
  · exact ⟨rfl, by decide, by decide⟩
  · exact FunD.bindsA (ps := ["_law_script"]) f (fun _ _ _ _ _ _ us hl => match us, hl with | [_], _ => rfl) s₁ [.ref a] rfl
end Gu
end
set_option Elab.async false
set_option linter.all false
set_option maxRecDepth 100000
set_option maxHeartbeats 0
open PySem PySem.W PySem.Calls PyProof.Rows
theorem PySem.Challenge.cw_guestseats_k37_whole_lowerings_holds : PySem.Challenge.rw_guestseats_k37_whole_lowerings.Holds := by
  w_on; o_law
  refine holds_open (r := Gu.RR) (q := Gu.qv) (loose := Gu.loA) (XP := XL Gu.qv []) (YP := Gu.hkG.says) (d := HandSHeadRun.topDef Gu.RR.prog 204) (kwd := []) Gu.left Gu.hkG.of Gu.hkG.keeps
    (fun s z => xl_of s (Bool.and_eq_true_iff.mp z).1) XL.keeps Gu.defR Gu.theR (by kernel_rfl) (fun s z => recFacts_of (Bool.and_eq_true_iff.mp z).2) (by rfl) (by first | assumption | decide +kernel) Gu.okR Gu.bareR ?hw ?hc
  case hw => w_witness2
  case hc => exact Gu.walk_ofG rfl (by decide) rfl rfl
