import PyProof.Rows.All
import Wide.All
import OpenK.AllK
import Wide.FinOn
import PySem.Challenge.RW_qd0133_01
set_option Elab.async false
set_option maxRecDepth 100000
set_option maxHeartbeats 0
set_option linter.all false
set_option tactic.hygienic false
set_option hygiene false
namespace Mine
section
open PySem PySem.W PyProof.Rows
noncomputable abbrev prg : Program := PySem.Challenge.pw_qd0133_01
noncomputable def nth : List Stmt → Nat → Option Stmt
  | [], _ => none
  | a :: _, 0 => some a
  | _ :: l, n + 1 => nth l n
noncomputable def stIn : List Stmt → List Nat → Option Stmt
  | _, [] => none
  | b, k :: r => match r with
    | [] => nth b k
    | _ :: _ => match nth b k with
      | some (.ClassDef _ _ _ b' _ _ _ _ _ _ _) => stIn b' r
      | _ => none
noncomputable def fA (p : List Nat) : Arguments := match stIn prg.main.body p with
  | some (.FunctionDef _ a _ _ _ _ _ _ _ _) => a
  | _ => { posonlyargs := [], args := [], vararg := none, kwonlyargs := [], kw_defaults := [], kwarg := none, defaults := [] }
noncomputable def fB (p : List Nat) : List Stmt := match stIn prg.main.body p with
  | some (.FunctionDef _ _ b _ _ _ _ _ _ _) => b
  | _ => []
noncomputable def fS (p : List Nat) : Scope := match stIn prg.main.body p with
  | some (.FunctionDef _ _ _ _ _ _ s _ _ _) => s
  | _ => prg.main.scope
noncomputable abbrev R (a : Nat) : Value := .ref a
noncomputable abbrev I (i : Int) (t : Nat) : Value := .int i t
noncomputable abbrev S (s : String) (t : Nat) : Value := .str (Str.ofString s) t
noncomputable abbrev Y (s : String) : Value := .type s
noncomputable abbrev U (s : String) : Value := .builtin s
noncomputable abbrev E (P : Params) (s : String) (t : Nat) (v : Value) : DictEntry := ⟨PyData.keyHash P (Str.ofString s), .str (Str.ofString s) t, v⟩
noncomputable abbrev fd (p : List Nat) (nm qn : String) (g : Nat) (cl : List (Str × Addr)) (dV kV doc pm : Value) (an : Option Addr) (code ct : Value) (b : Nat) : FuncData :=
  { name := Str.ofString nm, qualname := Str.ofString qn, params := fA p, body := .stmts (fB p), scope := fS p, globals := g, closure := cl, defaults := dV, kwdefaults := kV, doc := doc, pyModule := pm, annotations := an, code := code, closureTuple := ct, builtins := b }
noncomputable abbrev cd (nm : String) (bases mro : List Value) (ns : Nat) (qn : String) (hasDict : Bool) (sl : List Str) (sub : List Value) (abs : Bool) (col : Option Bool) (del : Bool) : ClassData :=
  { name := Str.ofString nm, bases := bases, mro := mro, ns := ns, qualname := Str.ofString qn, hasDict := hasDict, slotNames := sl, subclasses := sub, abstract := abs, collection := col, hasDel := del }
noncomputable abbrev n (o : Obj) (l r : BT) : BT := .node o l r
noncomputable abbrev z : BT := .nil
noncomputable abbrev f (o : Obj) : BT := .node o .nil .nil
noncomputable abbrev Zc (t : Nat) : Value := .str (Str.ofString "/claim/cut.py") t
noncomputable abbrev Zi (x : Int) : Value := .int x 0
noncomputable abbrev Zt (a : Array Value) : Obj := ⟨.type "tuple", none, .seq a 0, #[]⟩
noncomputable abbrev Zf (a : Array Value) : Obj := ⟨.none, none, .fields a, #[]⟩
noncomputable abbrev Zy (s : String) (a : Array Value) : Obj := ⟨.type s, none, .fields a, #[]⟩
noncomputable abbrev Zk (nm qn : String) (a b c : Nat) (l p q r s : Int) (n : Nat) (bo : Bool) (u : Int) (m : Nat) (x y z : Value) (v l2 : Int) (d : Nat) : Obj := ⟨.type "code", none, .fields #[.str (Str.ofString nm) a, .str (Str.ofString qn) b, Zc c, Zi l, Zi p, Zi q, Zi r, Zi s, .ref n, .bool bo, Zi u, .ref m, .none, x, y, z, Zi v, Zi l2, Zc d], #[]⟩
noncomputable abbrev Zd (a : Array DictEntry) (k : Nat) : Obj := ⟨.type "dict", none, .dict a k, #[]⟩
noncomputable abbrev Zu (p : List Nat) (nm qn : String) (pm : Value) (c : Nat) : Obj := ⟨.type "function", none, .func (fd p nm qn 3 [] .none .none .none pm none (.ref c) .none 0), #[]⟩
noncomputable abbrev Zm (p : List Nat) (nm qn : String) : Obj := ⟨.none, none, .func (fd p nm qn 0 [] .none .none .none .none none .none .none 0), #[]⟩
noncomputable abbrev Q00 (P : Params) := E P "__doc__" 166 .none
noncomputable abbrev Q01 (P : Params) := E P "__package__" 167 .none
noncomputable abbrev Q02 (P : Params) := E P "__loader__" 168 (U "__main__.__loader__#opaque")
noncomputable abbrev Q03 (P : Params) := E P "__spec__" 169 .none
noncomputable abbrev Q04 (P : Params) := E P "__annotations__" 170 (R 6)
noncomputable abbrev Q05 (P : Params) := E P "__builtins__" 171 (R 4)
noncomputable abbrev Q06 (P : Params) := E P "__file__" 173 (Zc 172)
noncomputable abbrev Q07 (P : Params) := E P "__cached__" 174 .none
noncomputable abbrev Q08 (P : Params) := E P "_wall" 193 (R 21)
noncomputable abbrev Q09 (P : Params) := E P "PaperError" 235 (R 46)
noncomputable abbrev Q0A (P : Params) := E P "PaintFault" 251 (R 59)
noncomputable abbrev Q0B (P : Params) := E P "Decimal" 377 (R 155)
noncomputable abbrev Q0C (P : Params) := E P "__name__" 165 (S "paperhold.objects" 410)
noncomputable abbrev Q0D (P : Params) := E P "sign_text" 384 (R 166)
noncomputable abbrev Q0E (P : Params) := E P "sign_of" 391 (R 173)
noncomputable abbrev Q0F (P : Params) := E P "decimal_of" 398 (R 180)
noncomputable abbrev Q0G (P : Params) := E P "at_one_scale" 409 (R 187)
noncomputable abbrev Q0H (P : Params) := E P "MOST_HOPS" 413 (I 30 412)
noncomputable abbrev Q0I (P : Params) := E P "Name" 442 (R 204)
noncomputable abbrev Q0J (P : Params) := E P "String" 473 (R 226)
noncomputable abbrev Q0K (P : Params) := E P "Stream" 504 (R 247)
noncomputable abbrev Q0L (P : Params) := E P "Reference" 542 (R 275)
noncomputable abbrev Q0M (P : Params) := E P "kind_of" 549 (R 286)
noncomputable abbrev Q0N (P : Params) := E P "is_number" 556 (R 293)
noncomputable abbrev Q0O (P : Params) := E P "told_plain" 564 (R 300)
noncomputable abbrev Q0P (P : Params) := E P "told" 570 (R 305)
noncomputable abbrev Q0Q (P : Params) := E P "told_objects" 571 (R 305)
noncomputable abbrev Q0R (P : Params) := E P "Lookup" 623 (R 337)
noncomputable abbrev Q0S (P : Params) := E P "Shelf" 685 (R 391)
noncomputable abbrev Q0T (P : Params) := E P "Matrix" 773 (R 443)
noncomputable abbrev Q0U (P : Params) := E P "identity" 779 (R 454)
noncomputable abbrev Q0V (P : Params) := E P "translation" 787 (R 461)
noncomputable abbrev Q0W (P : Params) := E P "Path" 818 (R 480)
noncomputable abbrev Q0X (P : Params) := E P "pair_of" 826 (R 491)
noncomputable abbrev Q0Y (P : Params) := E P "is_shut" 833 (R 498)
noncomputable abbrev Q0Z (P : Params) := E P "current_point" 841 (R 505)
noncomputable abbrev Q0a (P : Params) := E P "drawn_parts" 849 (R 512)
noncomputable abbrev Q0b (P : Params) := E P "move_to" 858 (R 519)
noncomputable abbrev Q0c (P : Params) := E P "path_with" 868 (R 526)
noncomputable abbrev Q0d (P : Params) := E P "line_to" 877 (R 533)
noncomputable abbrev Q0e (P : Params) := E P "curve_to" 887 (R 540)
noncomputable abbrev Q0f (P : Params) := E P "curve_from" 897 (R 547)
noncomputable abbrev Q0g (P : Params) := E P "curve_into" 906 (R 554)
noncomputable abbrev Q0h (P : Params) := E P "close_path" 914 (R 561)
noncomputable abbrev Q0i (P : Params) := E P "rectangle" 930 (R 568)
noncomputable abbrev Q0j (P : Params) := E P "each_point" 936 (R 573)
noncomputable abbrev Q0k (P : Params) := E P "transformed" 945 (R 580)
noncomputable abbrev Q0l (P : Params) := E P "State" 984 (R 597)
noncomputable abbrev Q0m (P : Params) := E P "first_colour" 992 (R 608)
noncomputable abbrev Q0n (P : Params) := E P "first_values" 1001 (R 615)
noncomputable abbrev Q0o (P : Params) := E P "first_state" 1009 (R 623)
noncomputable abbrev Q0p (P : Params) := E P "copied_state" 1016 (R 630)
noncomputable abbrev Q0q (P : Params) := E P "numbers_of" 1022 (R 635)
noncomputable abbrev Q0r (P : Params) := E P "name_of" 1029 (R 642)
noncomputable abbrev Q0s (P : Params) := E P "choice_of" 1038 (R 649)
noncomputable abbrev Q0t (P : Params) := E P "__name__" 165 (S "paperhold.painter" 1113)
noncomputable abbrev Q0u (P : Params) := E P "colour_parts" 1048 (R 656)
noncomputable abbrev Q0v (P : Params) := E P "device_count" 1056 (R 663)
noncomputable abbrev Q0w (P : Params) := E P "own_colour" 1065 (R 670)
noncomputable abbrev Q0x (P : Params) := E P "set_colour" 1079 (R 677)
noncomputable abbrev Q0y (P : Params) := E P "set_dash" 1085 (R 682)
noncomputable abbrev Q0z (P : Params) := E P "set_line" 1095 (R 689)
noncomputable abbrev Q10 (P : Params) := E P "set_named" 1101 (R 694)
noncomputable abbrev Q11 (P : Params) := E P "set_text" 1112 (R 701)
noncomputable abbrev Q12 (P : Params) := E P "MOST_FORMS" 1116 (I 8 1115)
noncomputable abbrev Q13 (P : Params) := E P "STATE_WORDS" 1120 (R 702)
noncomputable abbrev Q14 (P : Params) := E P "LINE_WORDS" 1129 (R 703)
noncomputable abbrev Q15 (P : Params) := E P "PATH_WORDS" 1137 (R 704)
noncomputable abbrev Q16 (P : Params) := E P "CLIP_WORDS" 1140 (R 705)
noncomputable abbrev Q17 (P : Params) := E P "PAINT_WORDS" 1151 (R 706)
noncomputable abbrev Q18 (P : Params) := E P "COLOUR_WORDS" 1164 (R 707)
noncomputable abbrev Q19 (P : Params) := E P "TEXT_WORDS" 1172 (R 708)
noncomputable abbrev Q1A (P : Params) := E P "PLACE_WORDS" 1177 (R 709)
noncomputable abbrev Q1B (P : Params) := E P "SHOW_WORDS" 1182 (R 710)
noncomputable abbrev Q1C (P : Params) := E P "NOTE_WORDS" 1188 (R 711)
noncomputable abbrev Q1D (P : Params) := E P "FILLS" 1210 (R 712)
noncomputable abbrev Q1E (P : Params) := E P "STROKES" 1217 (R 713)
noncomputable abbrev Q1F (P : Params) := E P "CLOSERS" 1221 (R 714)
noncomputable abbrev Q1G (P : Params) := E P "Painter" 1273 (R 739)
noncomputable abbrev Q1H (P : Params) := E P "paint_all" 1282 (R 750)
noncomputable abbrev Q1I (P : Params) := E P "put_mark" 1290 (R 757)
noncomputable abbrev Q1J (P : Params) := E P "check_place" 1299 (R 764)
noncomputable abbrev Q1K (P : Params) := E P "perform" 1308 (R 771)
noncomputable abbrev Q1L (P : Params) := E P "do_other" 1317 (R 778)
noncomputable abbrev Q1M (P : Params) := E P "do_state" 1326 (R 785)
noncomputable abbrev Q1N (P : Params) := E P "matrix_of" 1339 (R 792)
noncomputable abbrev Q1O (P : Params) := E P "named" 1349 (R 799)
noncomputable abbrev Q1P (P : Params) := E P "do_line" 1359 (R 806)
noncomputable abbrev Q1Q (P : Params) := E P "do_path" 1365 (R 811)
noncomputable abbrev Q1R (P : Params) := E P "do_clip" 1373 (R 818)
noncomputable abbrev Q1S (P : Params) := E P "do_paint" 1383 (R 825)
noncomputable abbrev Q1T (P : Params) := E P "add_clip" 1392 (R 832)
noncomputable abbrev Q1U (P : Params) := E P "move_line" 1402 (R 839)
noncomputable abbrev Q1V (P : Params) := E P "do_place" 1414 (R 846)
noncomputable abbrev Q1W (P : Params) := E P "octets_of_row" 1423 (R 853)
noncomputable abbrev Q1X (P : Params) := E P "form_numbers" 1453 (R 872)
noncomputable def J00 (P : Params) := Zd #[E P "__name__" 1 (S "builtins" 160), E P "__doc__" 2 (U "builtins.__doc__:str#opaque"), E P "__package__" 3 (U "builtins.__package__:str#opaque"), E P "__loader__" 4 (U "builtins.__loader__:shared#opaque"), E P "__spec__" 5 (U "builtins.__spec__#opaque"), E P "__build_class__" 6 (U "__build_class__"), E P "__import__" 7 (U "__import__"), E P "abs" 8 (U "abs"), E P "all" 9 (U "all"), E P "any" 10 (U "any"), E P "ascii" 11 (U "ascii"), E P "bin" 12 (U "bin"), E P "breakpoint" 13 (U "breakpoint"), E P "callable" 14 (U "callable"), E P "chr" 15 (U "chr"), E P "compile" 16 (U "compile"), E P "delattr" 17 (U "delattr"), E P "dir" 18 (U "dir"), E P "divmod" 19 (U "divmod"), E P "eval" 20 (U "eval"), E P "exec" 21 (U "exec"), E P "format" 22 (U "format"), E P "getattr" 23 (U "getattr"), E P "globals" 24 (U "globals"), E P "hasattr" 25 (U "hasattr"), E P "hash" 26 (U "hash"), E P "hex" 27 (U "hex"), E P "id" 28 (U "id"), E P "input" 29 (U "input"), E P "isinstance" 30 (U "isinstance"), E P "issubclass" 31 (U "issubclass"), E P "iter" 32 (U "iter"), E P "aiter" 33 (U "aiter"), E P "len" 34 (U "len"), E P "locals" 35 (U "locals"), E P "max" 36 (U "max"), E P "min" 37 (U "min"), E P "next" 38 (U "next"), E P "anext" 39 (U "anext"), E P "oct" 40 (U "oct"), E P "ord" 41 (U "ord"), E P "pow" 42 (U "pow"), E P "print" 43 (U "print"), E P "repr" 44 (U "repr"), E P "round" 45 (U "round"), E P "setattr" 46 (U "setattr"), E P "sorted" 47 (U "sorted"), E P "sum" 48 (U "sum"), E P "vars" 49 (U "vars"), E P "None" 50 .none, E P "Ellipsis" 51 .ellipsis, E P "NotImplemented" 52 .notImplemented, E P "False" 53 (.bool false), E P "True" 54 (.bool true), E P "bool" 55 (Y "bool"), E P "memoryview" 56 (Y "memoryview"), E P "bytearray" 57 (Y "bytearray"), E P "bytes" 58 (Y "bytes"), E P "classmethod" 59 (Y "classmethod"), E P "complex" 60 (Y "complex"), E P "dict" 61 (Y "dict"), E P "enumerate" 62 (Y "enumerate"), E P "filter" 63 (Y "filter"), E P "float" 64 (Y "float"), E P "frozenset" 65 (Y "frozenset"), E P "property" 66 (Y "property"), E P "int" 67 (Y "int"), E P "list" 68 (Y "list"), E P "map" 69 (Y "map"), E P "object" 70 (Y "object"), E P "range" 71 (Y "range"), E P "reversed" 72 (Y "reversed"), E P "set" 73 (Y "set"), E P "slice" 74 (Y "slice"), E P "staticmethod" 75 (Y "staticmethod"), E P "str" 76 (Y "str"), E P "super" 77 (Y "super"), E P "tuple" 78 (Y "tuple"), E P "type" 79 (Y "type"), E P "zip" 80 (Y "zip"), E P "__debug__" 81 (.bool true), E P "BaseException" 82 (Y "BaseException"), E P "BaseExceptionGroup" 83 (Y "BaseExceptionGroup"), E P "Exception" 84 (Y "Exception"), E P "GeneratorExit" 85 (Y "GeneratorExit"), E P "KeyboardInterrupt" 86 (Y "KeyboardInterrupt"), E P "SystemExit" 87 (Y "SystemExit"), E P "ArithmeticError" 88 (Y "ArithmeticError"), E P "AssertionError" 89 (Y "AssertionError"), E P "AttributeError" 90 (Y "AttributeError"), E P "BufferError" 91 (Y "BufferError"), E P "EOFError" 92 (Y "EOFError"), E P "ImportError" 93 (Y "ImportError"), E P "LookupError" 94 (Y "LookupError"), E P "MemoryError" 95 (Y "MemoryError"), E P "NameError" 96 (Y "NameError"), E P "OSError" 97 (Y "OSError"), E P "ReferenceError" 98 (Y "ReferenceError"), E P "RuntimeError" 99 (Y "RuntimeError"), E P "StopAsyncIteration" 100 (Y "StopAsyncIteration"), E P "StopIteration" 101 (Y "StopIteration"), E P "SyntaxError" 102 (Y "SyntaxError"), E P "SystemError" 103 (Y "SystemError"), E P "TypeError" 104 (Y "TypeError"), E P "ValueError" 105 (Y "ValueError"), E P "Warning" 106 (Y "Warning"), E P "FloatingPointError" 107 (Y "FloatingPointError"), E P "OverflowError" 108 (Y "OverflowError"), E P "ZeroDivisionError" 109 (Y "ZeroDivisionError"), E P "BytesWarning" 110 (Y "BytesWarning"), E P "DeprecationWarning" 111 (Y "DeprecationWarning"), E P "EncodingWarning" 112 (Y "EncodingWarning"), E P "FutureWarning" 113 (Y "FutureWarning"), E P "ImportWarning" 114 (Y "ImportWarning"), E P "PendingDeprecationWarning" 115 (Y "PendingDeprecationWarning"), E P "ResourceWarning" 116 (Y "ResourceWarning"), E P "RuntimeWarning" 117 (Y "RuntimeWarning"), E P "SyntaxWarning" 118 (Y "SyntaxWarning"), E P "UnicodeWarning" 119 (Y "UnicodeWarning"), E P "UserWarning" 120 (Y "UserWarning"), E P "BlockingIOError" 121 (Y "BlockingIOError"), E P "ChildProcessError" 122 (Y "ChildProcessError"), E P "ConnectionError" 123 (Y "ConnectionError"), E P "FileExistsError" 124 (Y "FileExistsError"), E P "FileNotFoundError" 125 (Y "FileNotFoundError"), E P "InterruptedError" 126 (Y "InterruptedError"), E P "IsADirectoryError" 127 (Y "IsADirectoryError"), E P "NotADirectoryError" 128 (Y "NotADirectoryError"), E P "PermissionError" 129 (Y "PermissionError"), E P "ProcessLookupError" 130 (Y "ProcessLookupError"), E P "TimeoutError" 131 (Y "TimeoutError"), E P "IndentationError" 132 (Y "IndentationError"), E P "_IncompleteInputError" 133 (Y "_IncompleteInputError"), E P "IndexError" 134 (Y "IndexError"), E P "KeyError" 135 (Y "KeyError"), E P "ModuleNotFoundError" 136 (Y "ModuleNotFoundError"), E P "NotImplementedError" 137 (Y "NotImplementedError"), E P "PythonFinalizationError" 138 (Y "PythonFinalizationError"), E P "RecursionError" 139 (Y "RecursionError"), E P "UnboundLocalError" 140 (Y "UnboundLocalError"), E P "UnicodeError" 141 (Y "UnicodeError"), E P "BrokenPipeError" 142 (Y "BrokenPipeError"), E P "ConnectionAbortedError" 143 (Y "ConnectionAbortedError"), E P "ConnectionRefusedError" 144 (Y "ConnectionRefusedError"), E P "ConnectionResetError" 145 (Y "ConnectionResetError"), E P "TabError" 146 (Y "TabError"), E P "UnicodeDecodeError" 147 (Y "UnicodeDecodeError"), E P "UnicodeEncodeError" 148 (Y "UnicodeEncodeError"), E P "UnicodeTranslateError" 149 (Y "UnicodeTranslateError"), E P "ExceptionGroup" 150 (Y "ExceptionGroup"), E P "EnvironmentError" 151 (Y "OSError"), E P "IOError" 152 (Y "OSError"), E P "open" 153 (U "open"), E P "quit" 154 (U "builtins.quit#opaque"), E P "exit" 155 (U "builtins.exit#opaque"), E P "copyright" 156 (U "builtins.copyright#opaque"), E P "credits" 157 (U "builtins.credits#opaque"), E P "license" 158 (U "builtins.license#opaque"), E P "help" 159 (U "builtins.help#opaque")] 159
noncomputable def J01 (P : Params) := Zd #[E P "builtins" 162 (R 4), E P "__main__" 163 (R 5)] 2
noncomputable def J02 : Obj := ⟨.none, none, (.dict #[] 0), #[]⟩
noncomputable def J03 (P : Params) := Zd #[E P "__name__" 165 (S "__main__" 164), Q00 P, Q01 P, Q02 P, Q03 P, Q04 P, Q05 P, Q06 P, Q07 P] 9
noncomputable def J04 : Obj := ⟨(Y "module"), (some 0), .plain, #[]⟩
noncomputable def J05 : Obj := ⟨(Y "module"), (some 3), .plain, #[]⟩
noncomputable def J06 := Zd #[] 0
noncomputable def J07 := Zt #[]
noncomputable def J08 := Zf #[]
noncomputable def J09 := Zk "<module>" "<module>" 176 177 178 1 0 0 0 0 7 false 175 8 .none .none .none 179 1 180
noncomputable def J0A : Obj := ⟨(Y "frame"), none, .plain, #[some (R 9), some (R 3), some (R 3), none, some (S "__main__" 164), none, some (R 0)]⟩
noncomputable def J0B := Zt #[]
noncomputable def J0C := Zf #[]
noncomputable def J0D := Zk "<module>" "<module>" 182 183 184 1 0 0 0 0 11 false 181 12 .none .none .none 185 1 186
noncomputable def J0E : Obj := ⟨(Y "frame"), none, .plain, #[some (R 13), some (R 3), some (R 3), none, some (S "__main__" 164), none, some (R 0)]⟩
noncomputable def tr0 (P : Params) : BT := (n (J00 P) (n (J01 P) (n (J03 P) (f J07) (f J0B)) (n J05 (f J09) (f J0D))) (n J02 (n J04 (f J08) (f J0C)) (n J06 (f J0A) (f J0E))))
noncomputable def S0 (w : World) (os : OsState) : SharedT := ⟨tr0 w.params, 15, {}, #[], {}, 187, os⟩
noncomputable def J0F (P : Params) : Obj := ⟨.none, none, (.dict #[E P "type.__subclasses__.Exception.0" 232 (Zi 46), E P "type.__subclasses__.Exception.n" 233 (Zi 1)] 2), #[]⟩
noncomputable def J0G (P : Params) := Zd #[E P "__name__" 165 (S "paperhold.errors" 194), Q00 P, Q01 P, Q02 P, Q03 P, Q04 P, Q05 P, Q06 P, Q07 P, Q08 P, Q09 P] 11
noncomputable def J0H := Zf #[(Zi 1), (Zi 0), (R 20), (Zi 5), (Zi 0), (R 27)]
noncomputable def J0I := Zt #[]
noncomputable def J0J := Zf #[]
noncomputable def J0K := Zt #[(S "k" 190)]
noncomputable def J0L := Zt #[]
noncomputable def J0M := Zm [0] "_wall" "_wall"
noncomputable def J0N := Zk "_wall" "_wall" 187 188 189 1 1 0 0 3 15 true 181 16 (R 17) (R 18) (R 19) 191 1 192
noncomputable def J0O := Zu [0] "_wall" "_wall" (S "__main__" 164) 20
noncomputable def J0P := Zt #[(Y "Exception")]
noncomputable def J0Q := Zy "builtin_function_or_method" #[(U "type.__prepare__"), (Y "type")]
noncomputable def J0R (P : Params) := Zd #[E P "__module__" 203 (S "paperhold.errors" 194), E P "__qualname__" 205 (S "PaperError" 204), E P "__firstlineno__" 207 (I 5 206), E P "__init__" 218 (R 36), E P "told" 225 (R 43), E P "__static_attributes__" 228 (R 44)] 6
noncomputable def J0S := Zt #[]
noncomputable def J0T := Zf #[(Zi 7), (Zi 4), (R 35), (Zi 12), (Zi 4), (R 42)]
noncomputable def J0U := Zk "PaperError" "PaperError" 198 199 200 5 0 0 0 0 25 false 181 26 .none .none .none 201 5 202
noncomputable def J0V : Obj := ⟨(Y "frame"), none, .plain, #[some (R 27), some (R 3), some (R 24), none, some (S "paperhold.errors" 194), none, some (R 0)]⟩
noncomputable def J0W := Zt #[(I (-1) 209)]
noncomputable def J0X := Zt #[]
noncomputable def J0Y := Zf #[]
noncomputable def J0Z := Zt #[(S "self" 213), (S "what" 214), (S "at" 215)]
noncomputable def J0a := Zt #[]
noncomputable def J0b := Zm [2, 0] "__init__" "PaperError.__init__"
noncomputable def J0c := Zk "__init__" "PaperError.__init__" 210 211 212 7 3 0 0 3 30 true 181 31 (R 32) (R 33) (R 34) 216 7 217
noncomputable def J0d : Obj := ⟨(Y "function"), none, (.func (fd [2, 0] "__init__" "PaperError.__init__" 3 [] (R 29) .none .none (S "paperhold.errors" 194) none (R 35) .none 0)), #[]⟩
noncomputable def J0e := Zt #[]
noncomputable def J0f := Zf #[]
noncomputable def J0g := Zt #[(S "self" 222)]
noncomputable def J0h := Zt #[]
noncomputable def J0i := Zm [2, 1] "told" "PaperError.told"
noncomputable def J0j := Zk "told" "PaperError.told" 219 220 221 12 1 0 0 3 37 true 181 38 (R 39) (R 40) (R 41) 223 12 224
noncomputable def J0k := Zu [2, 1] "told" "PaperError.told" (S "paperhold.errors" 194) 42
noncomputable def J0l := Zt #[(S "at" 226), (S "what" 227)]
noncomputable def J0m (P : Params) := Zd #[E P "__module__" 203 (S "paperhold.errors" 194), E P "__firstlineno__" 207 (I 5 206), E P "__init__" 218 (R 36), E P "told" 225 (R 43), E P "__static_attributes__" 228 (R 44), E P "__weakref__" 230 (R 47), E P "__doc__" 231 .none] 3
noncomputable def J0n : Obj := ⟨(Y "type"), none, (.cls (cd "PaperError" [(Y "Exception")] [(R 46), (Y "Exception"), (Y "BaseException"), (Y "object")] 45 "PaperError" true [] [] false none false)), #[some (R 22), none, some (S "PaperError" 196), some (S "PaperError" 204), some (U "Exception.__new__"), some (.bool true)]⟩
noncomputable def J0o := Zy "getset_descriptor" #[(S "__weakref__" 229), (R 46), (U "ExceptionGroup.__weakref__"), .none]
noncomputable def J0p := Zy "super" #[(R 46), (R 46), (R 46)]
noncomputable def J0q := Zy "builtin_function_or_method" #[(U "object.__init_subclass__"), (R 46)]
noncomputable def tr1 (P : Params) : BT := (n (J00 P) (n (J01 P) (n (J0G P) (n J07 (n J0I (f J0Y) (f J0o)) (n J0Q (f J0g) z)) (n J0B (n J0M (f J0c) z) (n J0U (f J0k) z))) (n J05 (n J09 (n J0K (f J0a) (f J0q)) (n J0S (f J0i) z)) (n J0D (n J0O (f J0e) z) (n J0W (f (J0m P)) z)))) (n (J0F P) (n J04 (n J08 (n J0J (f J0Z) (f J0p)) (n (J0R P) (f J0h) z)) (n J0H (n J0N (f J0d) z) (n J0V (f J0l) z))) (n J06 (n J0A (n J0L (f J0b) z) (n J0T (f J0j) z)) (n J0E (n J0P (f J0f) z) (n J0X (f J0n) z)))))
noncomputable def S1 (w : World) (os : OsState) : SharedT := ⟨tr1 w.params, 50, {}, #[], {}, 236, os⟩
noncomputable def J0r (P : Params) := Zd #[E P "__name__" 165 (S "paperhold.decimals" 252), Q00 P, Q01 P, Q02 P, Q03 P, Q04 P, Q05 P, Q06 P, Q07 P, Q08 P, Q09 P, Q0A P] 12
noncomputable def J0s := Zf #[(Zi 1), (Zi 0), (R 20), (Zi 5), (Zi 0), (R 27), (Zi 14), (Zi 0), (R 55)]
noncomputable def J0t : Obj := ⟨(Y "type"), none, (.cls (cd "PaperError" [(Y "Exception")] [(R 46), (Y "Exception"), (Y "BaseException"), (Y "object")] 45 "PaperError" true [] [(R 59)] false none false)), #[some (R 22), none, some (S "PaperError" 196), some (S "PaperError" 204), some (U "Exception.__new__"), some (.bool true)]⟩
noncomputable def J0u := Zt #[(R 46)]
noncomputable def J0v := Zy "builtin_function_or_method" #[(U "type.__prepare__"), (Y "type")]
noncomputable def J0w (P : Params) := Zd #[E P "__module__" 243 (S "paperhold.errors" 194), E P "__qualname__" 245 (S "PaintFault" 244), E P "__firstlineno__" 247 (I 14 246), E P "__static_attributes__" 248 (R 57)] 4
noncomputable def J0x := Zt #[]
noncomputable def J0y := Zf #[]
noncomputable def J0z := Zk "PaintFault" "PaintFault" 238 239 240 14 0 0 0 0 53 false 181 54 .none .none .none 241 14 242
noncomputable def J10 : Obj := ⟨(Y "frame"), none, .plain, #[some (R 55), some (R 3), some (R 52), none, some (S "paperhold.errors" 194), none, some (R 0)]⟩
noncomputable def J11 := Zt #[]
noncomputable def J12 (P : Params) := Zd #[E P "__module__" 243 (S "paperhold.errors" 194), E P "__firstlineno__" 247 (I 14 246), E P "__static_attributes__" 248 (R 57), E P "__doc__" 249 .none] 2
noncomputable def J13 : Obj := ⟨(Y "type"), none, (.cls (cd "PaintFault" [(R 46)] [(R 59), (R 46), (Y "Exception"), (Y "BaseException"), (Y "object")] 58 "PaintFault" true [] [] false none false)), #[some (R 50), none, some (S "PaintFault" 236), some (S "PaintFault" 244), some (U "Exception.__new__"), some (.bool true)]⟩
noncomputable def J14 := Zy "super" #[(R 59), (R 59), (R 59)]
noncomputable def J15 := Zy "builtin_function_or_method" #[(U "object.__init_subclass__"), (R 59)]
noncomputable def tr2 (P : Params) : BT := (n (J00 P) (n (J01 P) (n (J0r P) (n J07 (n J0I (f J0Y) (f J0o)) (n J0Q (f J0g) (f J0z))) (n J0B (n J0M (f J0c) (f J0v)) (n J0U (f J0k) (f J13)))) (n J05 (n J09 (n J0K (f J0a) (f J0q)) (n J0S (f J0i) (f J11))) (n J0D (n J0O (f J0e) (f J0x)) (n J0W (f (J0m P)) (f J15))))) (n (J0F P) (n J04 (n J08 (n J0J (f J0Z) (f J0p)) (n (J0R P) (f J0h) (f J10))) (n J0s (n J0N (f J0d) (f (J0w P))) (n J0V (f J0l) (f J14)))) (n J06 (n J0A (n J0L (f J0b) (f J0u)) (n J0T (f J0j) (f (J12 P)))) (n J0E (n J0P (f J0f) (f J0y)) (n J0X (f J0t) z)))))
noncomputable def S2 (w : World) (os : OsState) : SharedT := ⟨tr2 w.params, 62, {}, #[], {}, 254, os⟩
noncomputable def J16 (P : Params) := Zd #[E P "__name__" 165 (S "paperhold.decimals" 252), Q00 P, Q01 P, Q02 P, Q03 P, Q04 P, Q05 P, Q06 P, Q07 P, Q08 P, Q09 P, Q0A P, Q0B P] 13
noncomputable def J17 := Zf #[(Zi 1), (Zi 0), (R 20), (Zi 5), (Zi 0), (R 27), (Zi 14), (Zi 0), (R 55), (Zi 17), (Zi 0), (R 67)]
noncomputable def J18 := Zt #[]
noncomputable def J19 := Zy "builtin_function_or_method" #[(U "type.__prepare__"), (Y "type")]
noncomputable def J1A (P : Params) := Zd #[E P "__module__" 261 (S "paperhold.decimals" 252), E P "__qualname__" 263 (S "Decimal" 262), E P "__firstlineno__" 265 (I 17 264), E P "__init__" 274 (R 75), E P "plus" 285 (R 82), E P "minus" 296 (R 89), E P "times" 305 (R 96), E P "negated" 312 (R 103), E P "compared" 323 (R 110), E P "is_whole" 330 (R 117), E P "floor" 337 (R 124), E P "rounded" 345 (R 131), E P "told" 352 (R 138), E P "text" 360 (R 145), E P "least_text" 367 (R 152), E P "__static_attributes__" 370 (R 153)] 16
noncomputable def J1B := Zt #[]
noncomputable def J1C := Zf #[(Zi 19), (Zi 4), (R 74), (Zi 26), (Zi 4), (R 81), (Zi 30), (Zi 4), (R 88), (Zi 34), (Zi 4), (R 95), (Zi 38), (Zi 4), (R 102), (Zi 41), (Zi 4), (R 109), (Zi 45), (Zi 4), (R 116), (Zi 48), (Zi 4), (R 123), (Zi 51), (Zi 4), (R 130), (Zi 54), (Zi 4), (R 137), (Zi 57), (Zi 4), (R 144), (Zi 64), (Zi 4), (R 151)]
noncomputable def J1D := Zk "Decimal" "Decimal" 256 257 258 17 0 0 0 0 65 false 181 66 .none .none .none 259 17 260
noncomputable def J1E : Obj := ⟨(Y "frame"), none, .plain, #[some (R 67), some (R 3), some (R 64), none, some (S "paperhold.decimals" 252), none, some (R 0)]⟩
noncomputable def J1F := Zt #[]
noncomputable def J1G := Zf #[]
noncomputable def J1H := Zt #[(S "self" 269), (S "top" 270), (S "places" 271)]
noncomputable def J1I := Zt #[]
noncomputable def J1J := Zm [5, 0] "__init__" "Decimal.__init__"
noncomputable def J1K := Zk "__init__" "Decimal.__init__" 266 267 268 19 3 0 0 3 69 true 181 70 (R 71) (R 72) (R 73) 272 19 273
noncomputable def J1L := Zu [5, 0] "__init__" "Decimal.__init__" (S "paperhold.decimals" 252) 74
noncomputable def J1M := Zt #[]
noncomputable def J1N := Zf #[]
noncomputable def J1O := Zt #[(S "self" 278), (S "other" 279), (S "one" 280), (S "two" 281), (S "places" 282)]
noncomputable def J1P := Zt #[]
noncomputable def J1Q := Zm [5, 1] "plus" "Decimal.plus"
noncomputable def J1R := Zk "plus" "Decimal.plus" 275 276 277 26 2 0 0 3 76 true 181 77 (R 78) (R 79) (R 80) 283 26 284
noncomputable def J1S := Zu [5, 1] "plus" "Decimal.plus" (S "paperhold.decimals" 252) 81
noncomputable def J1T := Zt #[]
noncomputable def J1U := Zf #[]
noncomputable def J1V := Zt #[(S "self" 289), (S "other" 290), (S "one" 291), (S "two" 292), (S "places" 293)]
noncomputable def J1W := Zt #[]
noncomputable def J1X := Zm [5, 2] "minus" "Decimal.minus"
noncomputable def J1Y := Zk "minus" "Decimal.minus" 286 287 288 30 2 0 0 3 83 true 181 84 (R 85) (R 86) (R 87) 294 30 295
noncomputable def J1Z := Zu [5, 2] "minus" "Decimal.minus" (S "paperhold.decimals" 252) 88
noncomputable def J1a := Zt #[]
noncomputable def J1b := Zf #[]
noncomputable def J1c := Zt #[(S "self" 300), (S "other" 301), (S "factor" 302)]
noncomputable def J1d := Zt #[]
noncomputable def J1e := Zm [5, 3] "times" "Decimal.times"
noncomputable def J1f := Zk "times" "Decimal.times" 297 298 299 34 2 0 0 3 90 true 181 91 (R 92) (R 93) (R 94) 303 34 304
noncomputable def J1g := Zu [5, 3] "times" "Decimal.times" (S "paperhold.decimals" 252) 95
noncomputable def J1h := Zt #[]
noncomputable def J1i := Zf #[]
noncomputable def J1j := Zt #[(S "self" 309)]
noncomputable def J1k := Zt #[]
noncomputable def J1l := Zm [5, 4] "negated" "Decimal.negated"
noncomputable def J1m := Zk "negated" "Decimal.negated" 306 307 308 38 1 0 0 3 97 true 181 98 (R 99) (R 100) (R 101) 310 38 311
noncomputable def J1n := Zu [5, 4] "negated" "Decimal.negated" (S "paperhold.decimals" 252) 102
noncomputable def J1o := Zt #[]
noncomputable def J1p := Zf #[]
noncomputable def J1q := Zt #[(S "self" 316), (S "other" 317), (S "one" 318), (S "two" 319), (S "places" 320)]
noncomputable def J1r := Zt #[]
noncomputable def J1s := Zm [5, 5] "compared" "Decimal.compared"
noncomputable def J1t := Zk "compared" "Decimal.compared" 313 314 315 41 2 0 0 3 104 true 181 105 (R 106) (R 107) (R 108) 321 41 322
noncomputable def J1u := Zu [5, 5] "compared" "Decimal.compared" (S "paperhold.decimals" 252) 109
noncomputable def J1v := Zt #[]
noncomputable def J1w := Zf #[]
noncomputable def J1x := Zt #[(S "self" 327)]
noncomputable def J1y := Zt #[]
noncomputable def J1z := Zm [5, 6] "is_whole" "Decimal.is_whole"
noncomputable def J20 := Zk "is_whole" "Decimal.is_whole" 324 325 326 45 1 0 0 3 111 true 181 112 (R 113) (R 114) (R 115) 328 45 329
noncomputable def J21 := Zu [5, 6] "is_whole" "Decimal.is_whole" (S "paperhold.decimals" 252) 116
noncomputable def J22 := Zt #[]
noncomputable def J23 := Zf #[]
noncomputable def J24 := Zt #[(S "self" 334)]
noncomputable def J25 := Zt #[]
noncomputable def J26 := Zm [5, 7] "floor" "Decimal.floor"
noncomputable def J27 := Zk "floor" "Decimal.floor" 331 332 333 48 1 0 0 3 118 true 181 119 (R 120) (R 121) (R 122) 335 48 336
noncomputable def J28 := Zu [5, 7] "floor" "Decimal.floor" (S "paperhold.decimals" 252) 123
noncomputable def J29 := Zt #[]
noncomputable def J2A := Zf #[]
noncomputable def J2B := Zt #[(S "self" 341), (S "places" 342)]
noncomputable def J2C := Zt #[]
noncomputable def J2D := Zm [5, 8] "rounded" "Decimal.rounded"
noncomputable def J2E := Zk "rounded" "Decimal.rounded" 338 339 340 51 2 0 0 3 125 true 181 126 (R 127) (R 128) (R 129) 343 51 344
noncomputable def J2F := Zu [5, 8] "rounded" "Decimal.rounded" (S "paperhold.decimals" 252) 130
noncomputable def J2G := Zt #[]
noncomputable def J2H := Zf #[]
noncomputable def J2I := Zt #[(S "self" 349)]
noncomputable def J2J := Zt #[]
noncomputable def J2K := Zm [5, 9] "told" "Decimal.told"
noncomputable def J2L := Zk "told" "Decimal.told" 346 347 348 54 1 0 0 3 132 true 181 133 (R 134) (R 135) (R 136) 350 54 351
noncomputable def J2M := Zu [5, 9] "told" "Decimal.told" (S "paperhold.decimals" 252) 137
noncomputable def J2N := Zt #[]
noncomputable def J2O := Zf #[]
noncomputable def J2P := Zt #[(S "self" 356), (S "numerals" 357)]
noncomputable def J2Q := Zt #[]
noncomputable def J2R := Zm [5, 10] "text" "Decimal.text"
noncomputable def J2S := Zk "text" "Decimal.text" 353 354 355 57 1 0 0 3 139 true 181 140 (R 141) (R 142) (R 143) 358 57 359
noncomputable def J2T := Zu [5, 10] "text" "Decimal.text" (S "paperhold.decimals" 252) 144
noncomputable def J2U := Zt #[]
noncomputable def J2V := Zf #[]
noncomputable def J2W := Zt #[(S "self" 364)]
noncomputable def J2X := Zt #[]
noncomputable def J2Y := Zm [5, 11] "least_text" "Decimal.least_text"
noncomputable def J2Z := Zk "least_text" "Decimal.least_text" 361 362 363 64 1 0 0 3 146 true 181 147 (R 148) (R 149) (R 150) 365 64 366
noncomputable def J2a := Zu [5, 11] "least_text" "Decimal.least_text" (S "paperhold.decimals" 252) 151
noncomputable def J2b := Zt #[(S "places" 368), (S "top" 369)]
noncomputable def J2c (P : Params) := Zd #[E P "__module__" 261 (S "paperhold.decimals" 252), E P "__firstlineno__" 265 (I 17 264), E P "__init__" 274 (R 75), E P "plus" 285 (R 82), E P "minus" 296 (R 89), E P "times" 305 (R 96), E P "negated" 312 (R 103), E P "compared" 323 (R 110), E P "is_whole" 330 (R 117), E P "floor" 337 (R 124), E P "rounded" 345 (R 131), E P "told" 352 (R 138), E P "text" 360 (R 145), E P "least_text" 367 (R 152), E P "__static_attributes__" 370 (R 153), E P "__dict__" 372 (R 156), E P "__weakref__" 374 (R 157), E P "__doc__" 375 .none] 4
noncomputable def J2d : Obj := ⟨(Y "type"), none, (.cls (cd "Decimal" [(Y "object")] [(R 155), (Y "object")] 154 "Decimal" true [] [] false none false)), #[none, none, some (S "Decimal" 254), some (S "Decimal" 262), some (U "object.__new__"), some (.bool true)]⟩
noncomputable def J2e := Zy "getset_descriptor" #[(S "__dict__" 371), (R 155), (U "function.__dict__"), (U "function.__dict__#set")]
noncomputable def J2f := Zy "getset_descriptor" #[(S "__weakref__" 373), (R 155), (U "ExceptionGroup.__weakref__"), .none]
noncomputable def J2g := Zy "super" #[(R 155), (R 155), (R 155)]
noncomputable def J2h := Zy "builtin_function_or_method" #[(U "object.__init_subclass__"), (R 155)]
noncomputable def tr3 (P : Params) : BT := (n (J00 P) (n (J01 P) (n (J16 P) (n J07 (n J0I (n J0Y (n J19 (f J2B) z) (n J1f (f J2h) z)) (n J0o (n J1P (f J2R) z) (f J1v))) (n J0Q (n J0g (n J1H (f J2J) z) (f J1n)) (n J0z (n J1X (f J2Z) z) (f J23)))) (n J0B (n J0M (n J0c (n J1D (f J2F) z) (f J1j)) (n J0v (n J1T (f J2V) z) (f J1z))) (n J0U (n J0k (n J1L (f J2N) z) (f J1r)) (n J13 (n J1b (f J2d) z) (f J27))))) (n J05 (n J09 (n J0K (n J0a (n J1B (f J2D) z) (f J1h)) (n J0q (n J1R (f J2T) z) (f J1x))) (n J0S (n J0i (n J1J (f J2L) z) (f J1p)) (n J11 (n J1Z (f J2b) z) (f J25)))) (n J0D (n J0O (n J0e (n J1F (f J2H) z) (f J1l)) (n J0x (n J1V (f J2X) z) (f J21))) (n J0W (n (J0m P) (n J1N (f J2P) z) (f J1t)) (n J15 (n J1d (f J2f) z) (f J29)))))) (n (J0F P) (n J04 (n J08 (n J0J (n J0Z (n (J1A P) (f J2C) z) (f J1g)) (n J0p (n J1Q (f J2S) z) (f J1w))) (n (J0R P) (n J0h (n J1I (f J2K) z) (f J1o)) (n J10 (n J1Y (f J2a) z) (f J24)))) (n J17 (n J0N (n J0d (n J1E (f J2G) z) (f J1k)) (n (J0w P) (n J1U (f J2W) z) (f J20))) (n J0V (n J0l (n J1M (f J2O) z) (f J1s)) (n J14 (n J1c (f J2e) z) (f J28))))) (n J06 (n J0A (n J0L (n J0b (n J1C (f J2E) z) (f J1i)) (n J0u (n J1S (f J2U) z) (f J1y))) (n J0T (n J0j (n J1K (f J2M) z) (f J1q)) (n (J12 P) (n J1a (f (J2c P)) z) (f J26)))) (n J0E (n J0P (n J0f (n J1G (f J2I) z) (f J1m)) (n J0y (n J1W (f J2Y) z) (f J22))) (n J0X (n J0t (n J1O (f J2Q) z) (f J1u)) (n J18 (n J1e (f J2g) z) (f J2A)))))))
noncomputable def S3 (w : World) (os : OsState) : SharedT := ⟨tr3 w.params, 160, {}, #[], {}, 378, os⟩
noncomputable def J2i (P : Params) := Zd #[Q0C P, Q00 P, Q01 P, Q02 P, Q03 P, Q04 P, Q05 P, Q06 P, Q07 P, Q08 P, Q09 P, Q0A P, Q0B P, Q0D P, Q0E P, Q0F P, Q0G P, Q0H P, Q0I P] 19
noncomputable def J2j := Zf #[(Zi 1), (Zi 0), (R 20), (Zi 5), (Zi 0), (R 27), (Zi 14), (Zi 0), (R 55), (Zi 17), (Zi 0), (R 67), (Zi 66), (Zi 0), (R 165), (Zi 68), (Zi 0), (R 172), (Zi 72), (Zi 0), (R 179), (Zi 78), (Zi 0), (R 186), (Zi 85), (Zi 0), (R 193)]
noncomputable def J2k := Zt #[]
noncomputable def J2l := Zf #[]
noncomputable def J2m := Zt #[(S "number" 381)]
noncomputable def J2n := Zt #[]
noncomputable def J2o := Zm [6] "sign_text" "sign_text"
noncomputable def J2p := Zk "sign_text" "sign_text" 378 379 380 66 1 0 0 3 160 true 181 161 (R 162) (R 163) (R 164) 382 66 383
noncomputable def J2q := Zu [6] "sign_text" "sign_text" (S "paperhold.decimals" 252) 165
noncomputable def J2r := Zt #[]
noncomputable def J2s := Zf #[]
noncomputable def J2t := Zt #[(S "number" 388)]
noncomputable def J2u := Zt #[]
noncomputable def J2v := Zm [7] "sign_of" "sign_of"
noncomputable def J2w := Zk "sign_of" "sign_of" 385 386 387 68 1 0 0 3 167 true 181 168 (R 169) (R 170) (R 171) 389 68 390
noncomputable def J2x := Zu [7] "sign_of" "sign_of" (S "paperhold.decimals" 252) 172
noncomputable def J2y := Zt #[]
noncomputable def J2z := Zf #[]
noncomputable def J30 := Zt #[(S "value" 395)]
noncomputable def J31 := Zt #[]
noncomputable def J32 := Zm [8] "decimal_of" "decimal_of"
noncomputable def J33 := Zk "decimal_of" "decimal_of" 392 393 394 72 1 0 0 3 174 true 181 175 (R 176) (R 177) (R 178) 396 72 397
noncomputable def J34 := Zu [8] "decimal_of" "decimal_of" (S "paperhold.decimals" 252) 179
noncomputable def J35 := Zt #[]
noncomputable def J36 := Zf #[]
noncomputable def J37 := Zt #[(S "one" 402), (S "other" 403), (S "first" 404), (S "second" 405), (S "places" 406)]
noncomputable def J38 := Zt #[]
noncomputable def J39 := Zm [9] "at_one_scale" "at_one_scale"
noncomputable def J3A := Zk "at_one_scale" "at_one_scale" 399 400 401 78 2 0 0 3 181 true 181 182 (R 183) (R 184) (R 185) 407 78 408
noncomputable def J3B := Zu [9] "at_one_scale" "at_one_scale" (S "paperhold.decimals" 252) 186
noncomputable def J3C := Zt #[]
noncomputable def J3D := Zy "builtin_function_or_method" #[(U "type.__prepare__"), (Y "type")]
noncomputable def J3E (P : Params) := Zd #[E P "__module__" 421 (S "paperhold.objects" 410), E P "__qualname__" 423 (S "Name" 422), E P "__firstlineno__" 425 (I 85 424), E P "__init__" 433 (R 201), E P "__static_attributes__" 435 (R 202)] 5
noncomputable def J3F := Zt #[]
noncomputable def J3G := Zf #[(Zi 87), (Zi 4), (R 200)]
noncomputable def J3H := Zk "Name" "Name" 416 417 418 85 0 0 0 0 191 false 181 192 .none .none .none 419 85 420
noncomputable def J3I : Obj := ⟨(Y "frame"), none, .plain, #[some (R 193), some (R 3), some (R 190), none, some (S "paperhold.objects" 410), none, some (R 0)]⟩
noncomputable def J3J := Zt #[]
noncomputable def J3K := Zf #[]
noncomputable def J3L := Zt #[(S "self" 429), (S "text" 430)]
noncomputable def J3M := Zt #[]
noncomputable def J3N := Zm [12, 0] "__init__" "Name.__init__"
noncomputable def J3O := Zk "__init__" "Name.__init__" 426 427 428 87 2 0 0 3 195 true 181 196 (R 197) (R 198) (R 199) 431 87 432
noncomputable def J3P := Zu [12, 0] "__init__" "Name.__init__" (S "paperhold.objects" 410) 200
noncomputable def J3Q := Zt #[(S "text" 434)]
noncomputable def J3R (P : Params) := Zd #[E P "__module__" 421 (S "paperhold.objects" 410), E P "__firstlineno__" 425 (I 85 424), E P "__init__" 433 (R 201), E P "__static_attributes__" 435 (R 202), E P "__dict__" 437 (R 205), E P "__weakref__" 439 (R 206), E P "__doc__" 440 .none] 4
noncomputable def J3S : Obj := ⟨(Y "type"), none, (.cls (cd "Name" [(Y "object")] [(R 204), (Y "object")] 203 "Name" true [] [] false none false)), #[none, none, some (S "Name" 414), some (S "Name" 422), some (U "object.__new__"), some (.bool true)]⟩
noncomputable def J3T := Zy "getset_descriptor" #[(S "__dict__" 436), (R 204), (U "function.__dict__"), (U "function.__dict__#set")]
noncomputable def J3U := Zy "getset_descriptor" #[(S "__weakref__" 438), (R 204), (U "ExceptionGroup.__weakref__"), .none]
noncomputable def J3V := Zy "super" #[(R 204), (R 204), (R 204)]
noncomputable def J3W := Zy "builtin_function_or_method" #[(U "object.__init_subclass__"), (R 204)]
noncomputable def tr4 (P : Params) : BT := (n (J00 P) (n (J01 P) (n (J2i P) (n J07 (n J0I (n J0Y (n J19 (f J2B) (f J3F)) (n J1f (f J2h) z)) (n J0o (n J1P (f J2R) (f J3V)) (n J1v (f J2z) z))) (n J0Q (n J0g (n J1H (f J2J) (f J3N)) (n J1n (f J2r) z)) (n J0z (n J1X (f J2Z) z) (n J23 (f J37) z)))) (n J0B (n J0M (n J0c (n J1D (f J2F) (f J3J)) (n J1j (f J2n) z)) (n J0v (n J1T (f J2V) z) (n J1z (f J33) z))) (n J0U (n J0k (n J1L (f J2N) (f (J3R P))) (n J1r (f J2v) z)) (n J13 (n J1b (f J2d) z) (n J27 (f J3B) z))))) (n J05 (n J09 (n J0K (n J0a (n J1B (f J2D) (f J3H)) (n J1h (f J2l) z)) (n J0q (n J1R (f J2T) z) (n J1x (f J31) z))) (n J0S (n J0i (n J1J (f J2L) (f J3P)) (n J1p (f J2t) z)) (n J11 (n J1Z (f J2b) z) (n J25 (f J39) z)))) (n J0D (n J0O (n J0e (n J1F (f J2H) (f J3L)) (n J1l (f J2p) z)) (n J0x (n J1V (f J2X) z) (n J21 (f J35) z))) (n J0W (n (J0m P) (n J1N (f J2P) (f J3T)) (n J1t (f J2x) z)) (n J15 (n J1d (f J2f) z) (n J29 (f J3D) z)))))) (n (J0F P) (n J04 (n J08 (n J0J (n J0Z (n (J1A P) (f J2C) (f J3G)) (n J1g (f J2k) z)) (n J0p (n J1Q (f J2S) (f J3W)) (n J1w (f J30) z))) (n (J0R P) (n J0h (n J1I (f J2K) (f J3O)) (n J1o (f J2s) z)) (n J10 (n J1Y (f J2a) z) (n J24 (f J38) z)))) (n J2j (n J0N (n J0d (n J1E (f J2G) (f J3K)) (n J1k (f J2o) z)) (n (J0w P) (n J1U (f J2W) z) (n J20 (f J34) z))) (n J0V (n J0l (n J1M (f J2O) (f J3S)) (n J1s (f J2w) z)) (n J14 (n J1c (f J2e) z) (n J28 (f J3C) z))))) (n J06 (n J0A (n J0L (n J0b (n J1C (f J2E) (f J3I)) (n J1i (f J2m) z)) (n J0u (n J1S (f J2U) z) (n J1y (f J32) z))) (n J0T (n J0j (n J1K (f J2M) (f J3Q)) (n J1q (f J2u) z)) (n (J12 P) (n J1a (f (J2c P)) z) (n J26 (f J3A) z)))) (n J0E (n J0P (n J0f (n J1G (f J2I) (f J3M)) (n J1m (f J2q) z)) (n J0y (n J1W (f J2Y) z) (n J22 (f J36) z))) (n J0X (n J0t (n J1O (f J2Q) (f J3U)) (n J1u (f J2y) z)) (n J18 (n J1e (f J2g) z) (n J2A (f (J3E P)) z)))))))
noncomputable def S4 (w : World) (os : OsState) : SharedT := ⟨tr4 w.params, 209, {}, #[], {}, 443, os⟩
noncomputable def J3X (P : Params) := Zd #[Q0C P, Q00 P, Q01 P, Q02 P, Q03 P, Q04 P, Q05 P, Q06 P, Q07 P, Q08 P, Q09 P, Q0A P, Q0B P, Q0D P, Q0E P, Q0F P, Q0G P, Q0H P, Q0I P, Q0J P, Q0K P] 21
noncomputable def J3Y := Zf #[(Zi 1), (Zi 0), (R 20), (Zi 5), (Zi 0), (R 27), (Zi 14), (Zi 0), (R 55), (Zi 17), (Zi 0), (R 67), (Zi 66), (Zi 0), (R 165), (Zi 68), (Zi 0), (R 172), (Zi 72), (Zi 0), (R 179), (Zi 78), (Zi 0), (R 186), (Zi 85), (Zi 0), (R 193), (Zi 89), (Zi 0), (R 214), (Zi 94), (Zi 0), (R 236)]
noncomputable def J3Z := Zt #[]
noncomputable def J3a := Zy "builtin_function_or_method" #[(U "type.__prepare__"), (Y "type")]
noncomputable def J3b (P : Params) := Zd #[E P "__module__" 450 (S "paperhold.objects" 410), E P "__qualname__" 452 (S "String" 451), E P "__firstlineno__" 454 (I 89 453), E P "__init__" 463 (R 223), E P "__static_attributes__" 466 (R 224)] 5
noncomputable def J3c := Zt #[]
noncomputable def J3d := Zf #[(Zi 91), (Zi 4), (R 222)]
noncomputable def J3e := Zk "String" "String" 445 446 447 89 0 0 0 0 212 false 181 213 .none .none .none 448 89 449
noncomputable def J3f : Obj := ⟨(Y "frame"), none, .plain, #[some (R 214), some (R 3), some (R 211), none, some (S "paperhold.objects" 410), none, some (R 0)]⟩
noncomputable def J3g := Zt #[(.bool false)]
noncomputable def J3h := Zt #[]
noncomputable def J3i := Zf #[]
noncomputable def J3j := Zt #[(S "self" 458), (S "octets" 459), (S "is_hex" 460)]
noncomputable def J3k := Zt #[]
noncomputable def J3l := Zm [13, 0] "__init__" "String.__init__"
noncomputable def J3m := Zk "__init__" "String.__init__" 455 456 457 91 3 0 0 3 217 true 181 218 (R 219) (R 220) (R 221) 461 91 462
noncomputable def J3n : Obj := ⟨(Y "function"), none, (.func (fd [13, 0] "__init__" "String.__init__" 3 [] (R 216) .none .none (S "paperhold.objects" 410) none (R 222) .none 0)), #[]⟩
noncomputable def J3o := Zt #[(S "is_hex" 464), (S "octets" 465)]
noncomputable def J3p (P : Params) := Zd #[E P "__module__" 450 (S "paperhold.objects" 410), E P "__firstlineno__" 454 (I 89 453), E P "__init__" 463 (R 223), E P "__static_attributes__" 466 (R 224), E P "__dict__" 468 (R 227), E P "__weakref__" 470 (R 228), E P "__doc__" 471 .none] 4
noncomputable def J3q : Obj := ⟨(Y "type"), none, (.cls (cd "String" [(Y "object")] [(R 226), (Y "object")] 225 "String" true [] [] false none false)), #[none, none, some (S "String" 443), some (S "String" 451), some (U "object.__new__"), some (.bool true)]⟩
noncomputable def J3r := Zy "getset_descriptor" #[(S "__dict__" 467), (R 226), (U "function.__dict__"), (U "function.__dict__#set")]
noncomputable def J3s := Zy "getset_descriptor" #[(S "__weakref__" 469), (R 226), (U "ExceptionGroup.__weakref__"), .none]
noncomputable def J3t := Zy "super" #[(R 226), (R 226), (R 226)]
noncomputable def J3u := Zy "builtin_function_or_method" #[(U "object.__init_subclass__"), (R 226)]
noncomputable def J3v := Zt #[]
noncomputable def J3w := Zy "builtin_function_or_method" #[(U "type.__prepare__"), (Y "type")]
noncomputable def J3x (P : Params) := Zd #[E P "__module__" 481 (S "paperhold.objects" 410), E P "__qualname__" 483 (S "Stream" 482), E P "__firstlineno__" 485 (I 94 484), E P "__init__" 494 (R 244), E P "__static_attributes__" 497 (R 245)] 5
noncomputable def J3y := Zt #[]
noncomputable def J3z := Zf #[(Zi 96), (Zi 4), (R 243)]
noncomputable def J40 := Zk "Stream" "Stream" 476 477 478 94 0 0 0 0 234 false 181 235 .none .none .none 479 94 480
noncomputable def J41 : Obj := ⟨(Y "frame"), none, .plain, #[some (R 236), some (R 3), some (R 233), none, some (S "paperhold.objects" 410), none, some (R 0)]⟩
noncomputable def J42 := Zt #[]
noncomputable def J43 := Zf #[]
noncomputable def J44 := Zt #[(S "self" 489), (S "head" 490), (S "octets" 491)]
noncomputable def J45 := Zt #[]
noncomputable def J46 := Zm [14, 0] "__init__" "Stream.__init__"
noncomputable def J47 := Zk "__init__" "Stream.__init__" 486 487 488 96 3 0 0 3 238 true 181 239 (R 240) (R 241) (R 242) 492 96 493
noncomputable def J48 := Zu [14, 0] "__init__" "Stream.__init__" (S "paperhold.objects" 410) 243
noncomputable def J49 := Zt #[(S "head" 495), (S "octets" 496)]
noncomputable def J4A (P : Params) := Zd #[E P "__module__" 481 (S "paperhold.objects" 410), E P "__firstlineno__" 485 (I 94 484), E P "__init__" 494 (R 244), E P "__static_attributes__" 497 (R 245), E P "__dict__" 499 (R 248), E P "__weakref__" 501 (R 249), E P "__doc__" 502 .none] 4
noncomputable def J4B : Obj := ⟨(Y "type"), none, (.cls (cd "Stream" [(Y "object")] [(R 247), (Y "object")] 246 "Stream" true [] [] false none false)), #[none, none, some (S "Stream" 474), some (S "Stream" 482), some (U "object.__new__"), some (.bool true)]⟩
noncomputable def J4C := Zy "getset_descriptor" #[(S "__dict__" 498), (R 247), (U "function.__dict__"), (U "function.__dict__#set")]
noncomputable def J4D := Zy "getset_descriptor" #[(S "__weakref__" 500), (R 247), (U "ExceptionGroup.__weakref__"), .none]
noncomputable def J4E := Zy "super" #[(R 247), (R 247), (R 247)]
noncomputable def J4F := Zy "builtin_function_or_method" #[(U "object.__init_subclass__"), (R 247)]
noncomputable def tr5 (P : Params) : BT := (n (J00 P) (n (J01 P) (n (J3X P) (n J07 (n J0I (n J0Y (n J19 (f J2B) (f J3F)) (n J1f (f J2h) (f J3n))) (n J0o (n J1P (f J2R) (f J3V)) (n J1v (f J2z) (f J43)))) (n J0Q (n J0g (n J1H (f J2J) (f J3N)) (n J1n (f J2r) (f J3v))) (n J0z (n J1X (f J2Z) (f J3f)) (n J23 (f J37) (f J4B))))) (n J0B (n J0M (n J0c (n J1D (f J2F) (f J3J)) (n J1j (f J2n) (f J3r))) (n J0v (n J1T (f J2V) (f (J3b P))) (n J1z (f J33) (f J47)))) (n J0U (n J0k (n J1L (f J2N) (f (J3R P))) (n J1r (f J2v) (f J3z))) (n J13 (n J1b (f J2d) (f J3j)) (n J27 (f J3B) (f J4F)))))) (n J05 (n J09 (n J0K (n J0a (n J1B (f J2D) (f J3H)) (n J1h (f J2l) (f (J3p P)))) (n J0q (n J1R (f J2T) (f J3Z)) (n J1x (f J31) (f J45)))) (n J0S (n J0i (n J1J (f J2L) (f J3P)) (n J1p (f J2t) (f (J3x P)))) (n J11 (n J1Z (f J2b) (f J3h)) (n J25 (f J39) (f J4D))))) (n J0D (n J0O (n J0e (n J1F (f J2H) (f J3L)) (n J1l (f J2p) (f J3t))) (n J0x (n J1V (f J2X) (f J3d)) (n J21 (f J35) (f J49)))) (n J0W (n (J0m P) (n J1N (f J2P) (f J3T)) (n J1t (f J2x) (f J41))) (n J15 (n J1d (f J2f) (f J3l)) (n J29 (f J3D) z)))))) (n (J0F P) (n J04 (n J08 (n J0J (n J0Z (n (J1A P) (f J2C) (f J3G)) (n J1g (f J2k) (f J3o))) (n J0p (n J1Q (f J2S) (f J3W)) (n J1w (f J30) (f J44)))) (n (J0R P) (n J0h (n J1I (f J2K) (f J3O)) (n J1o (f J2s) (f J3w))) (n J10 (n J1Y (f J2a) (f J3g)) (n J24 (f J38) (f J4C))))) (n J3Y (n J0N (n J0d (n J1E (f J2G) (f J3K)) (n J1k (f J2o) (f J3s))) (n (J0w P) (n J1U (f J2W) (f J3c)) (n J20 (f J34) (f J48)))) (n J0V (n J0l (n J1M (f J2O) (f J3S)) (n J1s (f J2w) (f J40))) (n J14 (n J1c (f J2e) (f J3k)) (n J28 (f J3C) z))))) (n J06 (n J0A (n J0L (n J0b (n J1C (f J2E) (f J3I)) (n J1i (f J2m) (f J3q))) (n J0u (n J1S (f J2U) (f J3a)) (n J1y (f J32) (f J46)))) (n J0T (n J0j (n J1K (f J2M) (f J3Q)) (n J1q (f J2u) (f J3y))) (n (J12 P) (n J1a (f (J2c P)) (f J3i)) (n J26 (f J3A) (f J4E))))) (n J0E (n J0P (n J0f (n J1G (f J2I) (f J3M)) (n J1m (f J2q) (f J3u))) (n J0y (n J1W (f J2Y) (f J3e)) (n J22 (f J36) (f (J4A P))))) (n J0X (n J0t (n J1O (f J2Q) (f J3U)) (n J1u (f J2y) (f J42))) (n J18 (n J1e (f J2g) (f J3m)) (n J2A (f (J3E P)) z)))))))
noncomputable def S5 (w : World) (os : OsState) : SharedT := ⟨tr5 w.params, 252, {}, #[], {}, 505, os⟩
noncomputable def J4G (P : Params) := Zd #[Q0C P, Q00 P, Q01 P, Q02 P, Q03 P, Q04 P, Q05 P, Q06 P, Q07 P, Q08 P, Q09 P, Q0A P, Q0B P, Q0D P, Q0E P, Q0F P, Q0G P, Q0H P, Q0I P, Q0J P, Q0K P, Q0L P, Q0M P, Q0N P, Q0O P, Q0P P, Q0Q P] 27
noncomputable def J4H := Zf #[(Zi 1), (Zi 0), (R 20), (Zi 5), (Zi 0), (R 27), (Zi 14), (Zi 0), (R 55), (Zi 17), (Zi 0), (R 67), (Zi 66), (Zi 0), (R 165), (Zi 68), (Zi 0), (R 172), (Zi 72), (Zi 0), (R 179), (Zi 78), (Zi 0), (R 186), (Zi 85), (Zi 0), (R 193), (Zi 89), (Zi 0), (R 214), (Zi 94), (Zi 0), (R 236), (Zi 99), (Zi 0), (R 257), (Zi 107), (Zi 0), (R 285), (Zi 129), (Zi 0), (R 292), (Zi 131), (Zi 0), (R 299), (Zi 145), (Zi 0), (R 304)]
noncomputable def J4I := Zt #[]
noncomputable def J4J := Zy "builtin_function_or_method" #[(U "type.__prepare__"), (Y "type")]
noncomputable def J4K (P : Params) := Zd #[E P "__module__" 512 (S "paperhold.objects" 410), E P "__qualname__" 514 (S "Reference" 513), E P "__firstlineno__" 516 (I 99 515), E P "__init__" 525 (R 265), E P "pair" 532 (R 272), E P "__static_attributes__" 535 (R 273)] 6
noncomputable def J4L := Zt #[]
noncomputable def J4M := Zf #[(Zi 101), (Zi 4), (R 264), (Zi 105), (Zi 4), (R 271)]
noncomputable def J4N := Zk "Reference" "Reference" 507 508 509 99 0 0 0 0 255 false 181 256 .none .none .none 510 99 511
noncomputable def J4O : Obj := ⟨(Y "frame"), none, .plain, #[some (R 257), some (R 3), some (R 254), none, some (S "paperhold.objects" 410), none, some (R 0)]⟩
noncomputable def J4P := Zt #[]
noncomputable def J4Q := Zf #[]
noncomputable def J4R := Zt #[(S "self" 520), (S "number" 521), (S "generation" 522)]
noncomputable def J4S := Zt #[]
noncomputable def J4T := Zm [15, 0] "__init__" "Reference.__init__"
noncomputable def J4U := Zk "__init__" "Reference.__init__" 517 518 519 101 3 0 0 3 259 true 181 260 (R 261) (R 262) (R 263) 523 101 524
noncomputable def J4V := Zu [15, 0] "__init__" "Reference.__init__" (S "paperhold.objects" 410) 264
noncomputable def J4W := Zt #[]
noncomputable def J4X := Zf #[]
noncomputable def J4Y := Zt #[(S "self" 529)]
noncomputable def J4Z := Zt #[]
noncomputable def J4a := Zm [15, 1] "pair" "Reference.pair"
noncomputable def J4b := Zk "pair" "Reference.pair" 526 527 528 105 1 0 0 3 266 true 181 267 (R 268) (R 269) (R 270) 530 105 531
noncomputable def J4c := Zu [15, 1] "pair" "Reference.pair" (S "paperhold.objects" 410) 271
noncomputable def J4d := Zt #[(S "generation" 533), (S "number" 534)]
noncomputable def J4e (P : Params) := Zd #[E P "__module__" 512 (S "paperhold.objects" 410), E P "__firstlineno__" 516 (I 99 515), E P "__init__" 525 (R 265), E P "pair" 532 (R 272), E P "__static_attributes__" 535 (R 273), E P "__dict__" 537 (R 276), E P "__weakref__" 539 (R 277), E P "__doc__" 540 .none] 4
noncomputable def J4f : Obj := ⟨(Y "type"), none, (.cls (cd "Reference" [(Y "object")] [(R 275), (Y "object")] 274 "Reference" true [] [] false none false)), #[none, none, some (S "Reference" 505), some (S "Reference" 513), some (U "object.__new__"), some (.bool true)]⟩
noncomputable def J4g := Zy "getset_descriptor" #[(S "__dict__" 536), (R 275), (U "function.__dict__"), (U "function.__dict__#set")]
noncomputable def J4h := Zy "getset_descriptor" #[(S "__weakref__" 538), (R 275), (U "ExceptionGroup.__weakref__"), .none]
noncomputable def J4i := Zy "super" #[(R 275), (R 275), (R 275)]
noncomputable def J4j := Zy "builtin_function_or_method" #[(U "object.__init_subclass__"), (R 275)]
noncomputable def J4k := Zt #[]
noncomputable def J4l := Zf #[]
noncomputable def J4m := Zt #[(S "value" 546)]
noncomputable def J4n := Zt #[]
noncomputable def J4o := Zm [16] "kind_of" "kind_of"
noncomputable def J4p := Zk "kind_of" "kind_of" 543 544 545 107 1 0 0 3 280 true 181 281 (R 282) (R 283) (R 284) 547 107 548
noncomputable def J4q := Zu [16] "kind_of" "kind_of" (S "paperhold.objects" 410) 285
noncomputable def J4r := Zt #[]
noncomputable def J4s := Zf #[]
noncomputable def J4t := Zt #[(S "value" 553)]
noncomputable def J4u := Zt #[]
noncomputable def J4v := Zm [17] "is_number" "is_number"
noncomputable def J4w := Zk "is_number" "is_number" 550 551 552 129 1 0 0 3 287 true 181 288 (R 289) (R 290) (R 291) 554 129 555
noncomputable def J4x := Zu [17] "is_number" "is_number" (S "paperhold.objects" 410) 292
noncomputable def J4y := Zt #[]
noncomputable def J4z := Zf #[]
noncomputable def J50 := Zt #[(S "kind" 560), (S "value" 561)]
noncomputable def J51 := Zt #[]
noncomputable def J52 := Zm [18] "told_plain" "told_plain"
noncomputable def J53 := Zk "told_plain" "told_plain" 557 558 559 131 2 0 0 3 294 true 181 295 (R 296) (R 297) (R 298) 562 131 563
noncomputable def J54 := Zu [18] "told_plain" "told_plain" (S "paperhold.objects" 410) 299
noncomputable def J55 := Zt #[]
noncomputable def J56 := Zf #[]
noncomputable def J57 := Zm [19] "told" "told"
noncomputable def J58 := Zk "told" "told" 565 566 567 145 1 0 0 3 301 true 181 302 .none .none (R 303) 568 145 569
noncomputable def J59 := Zu [19] "told" "told" (S "paperhold.objects" 410) 304
noncomputable def tr6 (P : Params) : BT := (n (J00 P) (n (J01 P) (n (J4G P) (n J07 (n J0I (n J0Y (n J19 (n J2B (f J4L) z) (f J3F)) (n J1f (n J2h (f J4r) z) (f J3n))) (n J0o (n J1P (n J2R (f J4b) z) (f J3V)) (n J1v (n J2z (f J57) z) (f J43)))) (n J0Q (n J0g (n J1H (n J2J (f J4T) z) (f J3N)) (n J1n (n J2r (f J4z) z) (f J3v))) (n J0z (n J1X (n J2Z (f J4j) z) (f J3f)) (n J23 (f J37) (f J4B))))) (n J0B (n J0M (n J0c (n J1D (n J2F (f J4P) z) (f J3J)) (n J1j (n J2n (f J4v) z) (f J3r))) (n J0v (n J1T (n J2V (f J4f) z) (f (J3b P))) (n J1z (f J33) (f J47)))) (n J0U (n J0k (n J1L (n J2N (f J4X) z) (f (J3R P))) (n J1r (n J2v (f J53) z) (f J3z))) (n J13 (n J1b (n J2d (f J4n) z) (f J3j)) (n J27 (f J3B) (f J4F)))))) (n J05 (n J09 (n J0K (n J0a (n J1B (n J2D (f J4N) z) (f J3H)) (n J1h (n J2l (f J4t) z) (f (J3p P)))) (n J0q (n J1R (n J2T (f J4d) z) (f J3Z)) (n J1x (n J31 (f J59) z) (f J45)))) (n J0S (n J0i (n J1J (n J2L (f J4V) z) (f J3P)) (n J1p (n J2t (f J51) z) (f (J3x P)))) (n J11 (n J1Z (n J2b (f J4l) z) (f J3h)) (n J25 (f J39) (f J4D))))) (n J0D (n J0O (n J0e (n J1F (n J2H (f J4R) z) (f J3L)) (n J1l (n J2p (f J4x) z) (f J3t))) (n J0x (n J1V (n J2X (f J4h) z) (f J3d)) (n J21 (f J35) (f J49)))) (n J0W (n (J0m P) (n J1N (n J2P (f J4Z) z) (f J3T)) (n J1t (n J2x (f J55) z) (f J41))) (n J15 (n J1d (n J2f (f J4p) z) (f J3l)) (n J29 (f J3D) (f J4J))))))) (n (J0F P) (n J04 (n J08 (n J0J (n J0Z (n (J1A P) (n J2C (f J4M) z) (f J3G)) (n J1g (n J2k (f J4s) z) (f J3o))) (n J0p (n J1Q (n J2S (f J4c) z) (f J3W)) (n J1w (n J30 (f J58) z) (f J44)))) (n (J0R P) (n J0h (n J1I (n J2K (f J4U) z) (f J3O)) (n J1o (n J2s (f J50) z) (f J3w))) (n J10 (n J1Y (n J2a (f J4k) z) (f J3g)) (n J24 (f J38) (f J4C))))) (n J4H (n J0N (n J0d (n J1E (n J2G (f J4Q) z) (f J3K)) (n J1k (n J2o (f J4w) z) (f J3s))) (n (J0w P) (n J1U (n J2W (f J4g) z) (f J3c)) (n J20 (f J34) (f J48)))) (n J0V (n J0l (n J1M (n J2O (f J4Y) z) (f J3S)) (n J1s (n J2w (f J54) z) (f J40))) (n J14 (n J1c (n J2e (f J4o) z) (f J3k)) (n J28 (f J3C) (f J4I)))))) (n J06 (n J0A (n J0L (n J0b (n J1C (n J2E (f J4O) z) (f J3I)) (n J1i (n J2m (f J4u) z) (f J3q))) (n J0u (n J1S (n J2U (f (J4e P)) z) (f J3a)) (n J1y (f J32) (f J46)))) (n J0T (n J0j (n J1K (n J2M (f J4W) z) (f J3Q)) (n J1q (n J2u (f J52) z) (f J3y))) (n (J12 P) (n J1a (n (J2c P) (f J4m) z) (f J3i)) (n J26 (f J3A) (f J4E))))) (n J0E (n J0P (n J0f (n J1G (n J2I (f J4S) z) (f J3M)) (n J1m (n J2q (f J4y) z) (f J3u))) (n J0y (n J1W (n J2Y (f J4i) z) (f J3e)) (n J22 (f J36) (f (J4A P))))) (n J0X (n J0t (n J1O (n J2Q (f J4a) z) (f J3U)) (n J1u (n J2y (f J56) z) (f J42))) (n J18 (n J1e (n J2g (f J4q) z) (f J3m)) (n J2A (f (J3E P)) (f (J4K P)))))))))
noncomputable def S6 (w : World) (os : OsState) : SharedT := ⟨tr6 w.params, 306, {}, #[], {}, 572, os⟩
noncomputable def J5A (P : Params) := Zd #[Q0C P, Q00 P, Q01 P, Q02 P, Q03 P, Q04 P, Q05 P, Q06 P, Q07 P, Q08 P, Q09 P, Q0A P, Q0B P, Q0D P, Q0E P, Q0F P, Q0G P, Q0H P, Q0I P, Q0J P, Q0K P, Q0L P, Q0M P, Q0N P, Q0O P, Q0P P, Q0Q P, Q0R P] 28
noncomputable def J5B := Zf #[(Zi 1), (Zi 0), (R 20), (Zi 5), (Zi 0), (R 27), (Zi 14), (Zi 0), (R 55), (Zi 17), (Zi 0), (R 67), (Zi 66), (Zi 0), (R 165), (Zi 68), (Zi 0), (R 172), (Zi 72), (Zi 0), (R 179), (Zi 78), (Zi 0), (R 186), (Zi 85), (Zi 0), (R 193), (Zi 89), (Zi 0), (R 214), (Zi 94), (Zi 0), (R 236), (Zi 99), (Zi 0), (R 257), (Zi 107), (Zi 0), (R 285), (Zi 129), (Zi 0), (R 292), (Zi 131), (Zi 0), (R 299), (Zi 145), (Zi 0), (R 304), (Zi 155), (Zi 0), (R 311)]
noncomputable def J5C := Zt #[]
noncomputable def J5D := Zy "builtin_function_or_method" #[(U "type.__prepare__"), (Y "type")]
noncomputable def J5E (P : Params) := Zd #[E P "__module__" 579 (S "paperhold.objects" 410), E P "__qualname__" 581 (S "Lookup" 580), E P "__firstlineno__" 583 (I 155 582), E P "__init__" 592 (R 320), E P "fetch" 604 (R 327), E P "get" 613 (R 334), E P "__static_attributes__" 616 (R 335)] 7
noncomputable def J5F := Zt #[]
noncomputable def J5G := Zf #[(Zi 157), (Zi 4), (R 319), (Zi 161), (Zi 4), (R 326), (Zi 172), (Zi 4), (R 333)]
noncomputable def J5H := Zk "Lookup" "Lookup" 574 575 576 155 0 0 0 0 309 false 181 310 .none .none .none 577 155 578
noncomputable def J5I : Obj := ⟨(Y "frame"), none, .plain, #[some (R 311), some (R 3), some (R 308), none, some (S "paperhold.objects" 410), none, some (R 0)]⟩
noncomputable def J5J := Zt #[.none, .none]
noncomputable def J5K := Zt #[]
noncomputable def J5L := Zf #[]
noncomputable def J5M := Zt #[(S "self" 587), (S "table" 588), (S "trailer" 589)]
noncomputable def J5N := Zt #[]
noncomputable def J5O := Zm [21, 0] "__init__" "Lookup.__init__"
noncomputable def J5P := Zk "__init__" "Lookup.__init__" 584 585 586 157 3 0 0 3 314 true 181 315 (R 316) (R 317) (R 318) 590 157 591
noncomputable def J5Q : Obj := ⟨(Y "function"), none, (.func (fd [21, 0] "__init__" "Lookup.__init__" 3 [] (R 313) .none .none (S "paperhold.objects" 410) none (R 319) .none 0)), #[]⟩
noncomputable def J5R := Zt #[]
noncomputable def J5S := Zf #[]
noncomputable def J5T := Zt #[(S "self" 596), (S "value" 597), (S "here" 598), (S "hop" 599), (S "generation" 600), (S "found" 601)]
noncomputable def J5U := Zt #[]
noncomputable def J5V := Zm [21, 1] "fetch" "Lookup.fetch"
noncomputable def J5W := Zk "fetch" "Lookup.fetch" 593 594 595 161 2 0 0 3 321 true 181 322 (R 323) (R 324) (R 325) 602 161 603
noncomputable def J5X := Zu [21, 1] "fetch" "Lookup.fetch" (S "paperhold.objects" 410) 326
noncomputable def J5Y := Zt #[]
noncomputable def J5Z := Zf #[]
noncomputable def J5a := Zt #[(S "self" 608), (S "head" 609), (S "key" 610)]
noncomputable def J5b := Zt #[]
noncomputable def J5c := Zm [21, 2] "get" "Lookup.get"
noncomputable def J5d := Zk "get" "Lookup.get" 605 606 607 172 3 0 0 3 328 true 181 329 (R 330) (R 331) (R 332) 611 172 612
noncomputable def J5e := Zu [21, 2] "get" "Lookup.get" (S "paperhold.objects" 410) 333
noncomputable def J5f := Zt #[(S "table" 614), (S "trailer" 615)]
noncomputable def J5g (P : Params) := Zd #[E P "__module__" 579 (S "paperhold.objects" 410), E P "__firstlineno__" 583 (I 155 582), E P "__init__" 592 (R 320), E P "fetch" 604 (R 327), E P "get" 613 (R 334), E P "__static_attributes__" 616 (R 335), E P "__dict__" 618 (R 338), E P "__weakref__" 620 (R 339), E P "__doc__" 621 .none] 4
noncomputable def J5h : Obj := ⟨(Y "type"), none, (.cls (cd "Lookup" [(Y "object")] [(R 337), (Y "object")] 336 "Lookup" true [] [] false none false)), #[none, none, some (S "Lookup" 572), some (S "Lookup" 580), some (U "object.__new__"), some (.bool true)]⟩
noncomputable def J5i := Zy "getset_descriptor" #[(S "__dict__" 617), (R 337), (U "function.__dict__"), (U "function.__dict__#set")]
noncomputable def J5j := Zy "getset_descriptor" #[(S "__weakref__" 619), (R 337), (U "ExceptionGroup.__weakref__"), .none]
noncomputable def J5k := Zy "super" #[(R 337), (R 337), (R 337)]
noncomputable def J5l := Zy "builtin_function_or_method" #[(U "object.__init_subclass__"), (R 337)]
noncomputable def tr7 (P : Params) : BT := (n (J00 P) (n (J01 P) (n (J5A P) (n J07 (n J0I (n J0Y (n J19 (n J2B (f J4L) z) (n J3F (f J5P) z)) (n J1f (n J2h (f J4r) z) (f J3n))) (n J0o (n J1P (n J2R (f J4b) z) (n J3V (f J5f) z)) (n J1v (n J2z (f J57) z) (f J43)))) (n J0Q (n J0g (n J1H (n J2J (f J4T) z) (n J3N (f J5X) z)) (n J1n (n J2r (f J4z) z) (f J3v))) (n J0z (n J1X (n J2Z (f J4j) z) (f J3f)) (n J23 (n J37 (f J5H) z) (f J4B))))) (n J0B (n J0M (n J0c (n J1D (n J2F (f J4P) z) (n J3J (f J5T) z)) (n J1j (n J2n (f J4v) z) (f J3r))) (n J0v (n J1T (n J2V (f J4f) z) (n (J3b P) (f J5j) z)) (n J1z (n J33 (f J5D) z) (f J47)))) (n J0U (n J0k (n J1L (n J2N (f J4X) z) (n (J3R P) (f J5b) z)) (n J1r (n J2v (f J53) z) (f J3z))) (n J13 (n J1b (n J2d (f J4n) z) (f J3j)) (n J27 (n J3B (f J5L) z) (f J4F)))))) (n J05 (n J09 (n J0K (n J0a (n J1B (n J2D (f J4N) z) (n J3H (f J5R) z)) (n J1h (n J2l (f J4t) z) (f (J3p P)))) (n J0q (n J1R (n J2T (f J4d) z) (n J3Z (f J5h) z)) (n J1x (n J31 (f J59) z) (f J45)))) (n J0S (n J0i (n J1J (n J2L (f J4V) z) (n J3P (f J5Z) z)) (n J1p (n J2t (f J51) z) (f (J3x P)))) (n J11 (n J1Z (n J2b (f J4l) z) (f J3h)) (n J25 (n J39 (f J5J) z) (f J4D))))) (n J0D (n J0O (n J0e (n J1F (n J2H (f J4R) z) (n J3L (f J5V) z)) (n J1l (n J2p (f J4x) z) (f J3t))) (n J0x (n J1V (n J2X (f J4h) z) (n J3d (f J5l) z)) (n J21 (n J35 (f J5F) z) (f J49)))) (n J0W (n (J0m P) (n J1N (n J2P (f J4Z) z) (n J3T (f J5d) z)) (n J1t (n J2x (f J55) z) (f J41))) (n J15 (n J1d (n J2f (f J4p) z) (f J3l)) (n J29 (n J3D (f J5N) z) (f J4J))))))) (n (J0F P) (n J04 (n J08 (n J0J (n J0Z (n (J1A P) (n J2C (f J4M) z) (n J3G (f J5Q) z)) (n J1g (n J2k (f J4s) z) (f J3o))) (n J0p (n J1Q (n J2S (f J4c) z) (n J3W (f (J5g P)) z)) (n J1w (n J30 (f J58) z) (f J44)))) (n (J0R P) (n J0h (n J1I (n J2K (f J4U) z) (n J3O (f J5Y) z)) (n J1o (n J2s (f J50) z) (f J3w))) (n J10 (n J1Y (n J2a (f J4k) z) (f J3g)) (n J24 (n J38 (f J5I) z) (f J4C))))) (n J5B (n J0N (n J0d (n J1E (n J2G (f J4Q) z) (n J3K (f J5U) z)) (n J1k (n J2o (f J4w) z) (f J3s))) (n (J0w P) (n J1U (n J2W (f J4g) z) (n J3c (f J5k) z)) (n J20 (n J34 (f (J5E P)) z) (f J48)))) (n J0V (n J0l (n J1M (n J2O (f J4Y) z) (n J3S (f J5c) z)) (n J1s (n J2w (f J54) z) (f J40))) (n J14 (n J1c (n J2e (f J4o) z) (f J3k)) (n J28 (n J3C (f J5M) z) (f J4I)))))) (n J06 (n J0A (n J0L (n J0b (n J1C (n J2E (f J4O) z) (n J3I (f J5S) z)) (n J1i (n J2m (f J4u) z) (f J3q))) (n J0u (n J1S (n J2U (f (J4e P)) z) (n J3a (f J5i) z)) (n J1y (n J32 (f J5C) z) (f J46)))) (n J0T (n J0j (n J1K (n J2M (f J4W) z) (n J3Q (f J5a) z)) (n J1q (n J2u (f J52) z) (f J3y))) (n (J12 P) (n J1a (n (J2c P) (f J4m) z) (f J3i)) (n J26 (n J3A (f J5K) z) (f J4E))))) (n J0E (n J0P (n J0f (n J1G (n J2I (f J4S) z) (n J3M (f J5W) z)) (n J1m (n J2q (f J4y) z) (f J3u))) (n J0y (n J1W (n J2Y (f J4i) z) (f J3e)) (n J22 (n J36 (f J5G) z) (f (J4A P))))) (n J0X (n J0t (n J1O (n J2Q (f J4a) z) (n J3U (f J5e) z)) (n J1u (n J2y (f J56) z) (f J42))) (n J18 (n J1e (n J2g (f J4q) z) (f J3m)) (n J2A (n (J3E P) (f J5O) z) (f (J4K P)))))))))
noncomputable def S7 (w : World) (os : OsState) : SharedT := ⟨tr7 w.params, 342, {}, #[], {}, 624, os⟩
noncomputable def J5m (P : Params) := Zd #[E P "__name__" 165 (S "paperhold.matrix" 686), Q00 P, Q01 P, Q02 P, Q03 P, Q04 P, Q05 P, Q06 P, Q07 P, Q08 P, Q09 P, Q0A P, Q0B P, Q0D P, Q0E P, Q0F P, Q0G P, Q0H P, Q0I P, Q0J P, Q0K P, Q0L P, Q0M P, Q0N P, Q0O P, Q0P P, Q0Q P, Q0R P, Q0S P] 29
noncomputable def J5n := Zf #[(Zi 1), (Zi 0), (R 20), (Zi 5), (Zi 0), (R 27), (Zi 14), (Zi 0), (R 55), (Zi 17), (Zi 0), (R 67), (Zi 66), (Zi 0), (R 165), (Zi 68), (Zi 0), (R 172), (Zi 72), (Zi 0), (R 179), (Zi 78), (Zi 0), (R 186), (Zi 85), (Zi 0), (R 193), (Zi 89), (Zi 0), (R 214), (Zi 94), (Zi 0), (R 236), (Zi 99), (Zi 0), (R 257), (Zi 107), (Zi 0), (R 285), (Zi 129), (Zi 0), (R 292), (Zi 131), (Zi 0), (R 299), (Zi 145), (Zi 0), (R 304), (Zi 155), (Zi 0), (R 311), (Zi 174), (Zi 0), (R 347)]
noncomputable def J5o : Obj := ⟨(Y "type"), none, (.cls (cd "Lookup" [(Y "object")] [(R 337), (Y "object")] 336 "Lookup" true [] [(R 391)] false none false)), #[none, none, some (S "Lookup" 572), some (S "Lookup" 580), some (U "object.__new__"), some (.bool true)]⟩
noncomputable def J5p := Zt #[(R 337)]
noncomputable def J5q := Zy "builtin_function_or_method" #[(U "type.__prepare__"), (Y "type")]
noncomputable def J5r (P : Params) := Zd #[E P "__module__" 631 (S "paperhold.objects" 410), E P "__qualname__" 633 (S "Shelf" 632), E P "__firstlineno__" 635 (I 174 634), E P "put" 645 (R 355), E P "add" 653 (R 362), E P "drop" 661 (R 369), E P "numbers" 668 (R 376), E P "root" 675 (R 383), E P "told" 681 (R 388), E P "__static_attributes__" 682 (R 389)] 10
noncomputable def J5s := Zt #[]
noncomputable def J5t := Zf #[(Zi 176), (Zi 4), (R 354), (Zi 179), (Zi 4), (R 361), (Zi 182), (Zi 4), (R 368), (Zi 185), (Zi 4), (R 375), (Zi 188), (Zi 4), (R 382), (Zi 191), (Zi 4), (R 387)]
noncomputable def J5u := Zk "Shelf" "Shelf" 626 627 628 174 0 0 0 0 345 false 181 346 .none .none .none 629 174 630
noncomputable def J5v : Obj := ⟨(Y "frame"), none, .plain, #[some (R 347), some (R 3), some (R 344), none, some (S "paperhold.objects" 410), none, some (R 0)]⟩
noncomputable def J5w := Zt #[]
noncomputable def J5x := Zf #[]
noncomputable def J5y := Zt #[(S "self" 639), (S "number" 640), (S "generation" 641), (S "value" 642)]
noncomputable def J5z := Zt #[]
noncomputable def J60 := Zm [22, 0] "put" "Shelf.put"
noncomputable def J61 := Zk "put" "Shelf.put" 636 637 638 176 4 0 0 3 349 true 181 350 (R 351) (R 352) (R 353) 643 176 644
noncomputable def J62 := Zu [22, 0] "put" "Shelf.put" (S "paperhold.objects" 410) 354
noncomputable def J63 := Zt #[]
noncomputable def J64 := Zf #[]
noncomputable def J65 := Zt #[(S "self" 649), (S "value" 650)]
noncomputable def J66 := Zt #[]
noncomputable def J67 := Zm [22, 1] "add" "Shelf.add"
noncomputable def J68 := Zk "add" "Shelf.add" 646 647 648 179 2 0 0 3 356 true 181 357 (R 358) (R 359) (R 360) 651 179 652
noncomputable def J69 := Zu [22, 1] "add" "Shelf.add" (S "paperhold.objects" 410) 361
noncomputable def J6A := Zt #[]
noncomputable def J6B := Zf #[]
noncomputable def J6C := Zt #[(S "self" 657), (S "number" 658)]
noncomputable def J6D := Zt #[]
noncomputable def J6E := Zm [22, 2] "drop" "Shelf.drop"
noncomputable def J6F := Zk "drop" "Shelf.drop" 654 655 656 182 2 0 0 3 363 true 181 364 (R 365) (R 366) (R 367) 659 182 660
noncomputable def J6G := Zu [22, 2] "drop" "Shelf.drop" (S "paperhold.objects" 410) 368
noncomputable def J6H := Zt #[]
noncomputable def J6I := Zf #[]
noncomputable def J6J := Zt #[(S "self" 665)]
noncomputable def J6K := Zt #[]
noncomputable def J6L := Zm [22, 3] "numbers" "Shelf.numbers"
noncomputable def J6M := Zk "numbers" "Shelf.numbers" 662 663 664 185 1 0 0 3 370 true 181 371 (R 372) (R 373) (R 374) 666 185 667
noncomputable def J6N := Zu [22, 3] "numbers" "Shelf.numbers" (S "paperhold.objects" 410) 375
noncomputable def J6O := Zt #[]
noncomputable def J6P := Zf #[]
noncomputable def J6Q := Zt #[(S "self" 672)]
noncomputable def J6R := Zt #[]
noncomputable def J6S := Zm [22, 4] "root" "Shelf.root"
noncomputable def J6T := Zk "root" "Shelf.root" 669 670 671 188 1 0 0 3 377 true 181 378 (R 379) (R 380) (R 381) 673 188 674
noncomputable def J6U := Zu [22, 4] "root" "Shelf.root" (S "paperhold.objects" 410) 382
noncomputable def J6V := Zt #[]
noncomputable def J6W := Zf #[]
noncomputable def J6X := Zm [22, 5] "told" "Shelf.told"
noncomputable def J6Y := Zk "told" "Shelf.told" 676 677 678 191 1 0 0 3 384 true 181 385 .none .none (R 386) 679 191 680
noncomputable def J6Z := Zu [22, 5] "told" "Shelf.told" (S "paperhold.objects" 410) 387
noncomputable def J6a := Zt #[]
noncomputable def J6b (P : Params) := Zd #[E P "__module__" 631 (S "paperhold.objects" 410), E P "__firstlineno__" 635 (I 174 634), E P "put" 645 (R 355), E P "add" 653 (R 362), E P "drop" 661 (R 369), E P "numbers" 668 (R 376), E P "root" 675 (R 383), E P "told" 681 (R 388), E P "__static_attributes__" 682 (R 389), E P "__doc__" 683 .none] 2
noncomputable def J6c : Obj := ⟨(Y "type"), none, (.cls (cd "Shelf" [(R 337)] [(R 391), (R 337), (Y "object")] 390 "Shelf" true [] [] false none false)), #[some (R 342), none, some (S "Shelf" 624), some (S "Shelf" 632), some (U "object.__new__"), some (.bool true)]⟩
noncomputable def J6d := Zy "super" #[(R 391), (R 391), (R 391)]
noncomputable def J6e := Zy "builtin_function_or_method" #[(U "object.__init_subclass__"), (R 391)]
noncomputable def tr8 (P : Params) : BT := (n (J00 P) (n (J01 P) (n (J5m P) (n J07 (n J0I (n J0Y (n J19 (n J2B (f J4L) (f J6U)) (n J3F (f J5P) z)) (n J1f (n J2h (f J4r) z) (n J3n (f J5y) z))) (n J0o (n J1P (n J2R (f J4b) z) (n J3V (f J5f) z)) (n J1v (n J2z (f J57) z) (n J43 (f J6E) z)))) (n J0Q (n J0g (n J1H (n J2J (f J4T) (f J6c)) (n J3N (f J5X) z)) (n J1n (n J2r (f J4z) z) (n J3v (f J66) z))) (n J0z (n J1X (n J2Z (f J4j) z) (n J3f (f J5q) z)) (n J23 (n J37 (f J5H) z) (n J4B (f J6M) z))))) (n J0B (n J0M (n J0c (n J1D (n J2F (f J4P) (f J6Y)) (n J3J (f J5T) z)) (n J1j (n J2n (f J4v) z) (n J3r (f J62) z))) (n J0v (n J1T (n J2V (f J4f) z) (n (J3b P) (f J5j) z)) (n J1z (n J33 (f J5D) z) (n J47 (f J6I) z)))) (n J0U (n J0k (n J1L (n J2N (f J4X) z) (n (J3R P) (f J5b) z)) (n J1r (n J2v (f J53) z) (n J3z (f J6A) z))) (n J13 (n J1b (n J2d (f J4n) z) (n J3j (f J5u) z)) (n J27 (n J3B (f J5L) z) (n J4F (f J6Q) z)))))) (n J05 (n J09 (n J0K (n J0a (n J1B (n J2D (f J4N) (f J6W)) (n J3H (f J5R) z)) (n J1h (n J2l (f J4t) z) (n (J3p P) (f J60) z))) (n J0q (n J1R (n J2T (f J4d) z) (n J3Z (f J5o) z)) (n J1x (n J31 (f J59) z) (n J45 (f J6G) z)))) (n J0S (n J0i (n J1J (n J2L (f J4V) (f J6e)) (n J3P (f J5Z) z)) (n J1p (n J2t (f J51) z) (n (J3x P) (f J68) z))) (n J11 (n J1Z (n J2b (f J4l) z) (n J3h (f J5s) z)) (n J25 (n J39 (f J5J) z) (n J4D (f J6O) z))))) (n J0D (n J0O (n J0e (n J1F (n J2H (f J4R) (f J6a)) (n J3L (f J5V) z)) (n J1l (n J2p (f J4x) z) (n J3t (f J64) z))) (n J0x (n J1V (n J2X (f J4h) z) (n J3d (f J5l) z)) (n J21 (n J35 (f J5F) z) (n J49 (f J6K) z)))) (n J0W (n (J0m P) (n J1N (n J2P (f J4Z) z) (n J3T (f J5d) z)) (n J1t (n J2x (f J55) z) (n J41 (f J6C) z))) (n J15 (n J1d (n J2f (f J4p) z) (n J3l (f J5w) z)) (n J29 (n J3D (f J5N) z) (n J4J (f J6S) z))))))) (n (J0F P) (n J04 (n J08 (n J0J (n J0Z (n (J1A P) (n J2C (f J4M) (f J6V)) (n J3G (f J5Q) z)) (n J1g (n J2k (f J4s) z) (n J3o (f J5z) z))) (n J0p (n J1Q (n J2S (f J4c) z) (n J3W (f (J5g P)) z)) (n J1w (n J30 (f J58) z) (n J44 (f J6F) z)))) (n (J0R P) (n J0h (n J1I (n J2K (f J4U) (f J6d)) (n J3O (f J5Y) z)) (n J1o (n J2s (f J50) z) (n J3w (f J67) z))) (n J10 (n J1Y (n J2a (f J4k) z) (n J3g (f (J5r P)) z)) (n J24 (n J38 (f J5I) z) (n J4C (f J6N) z))))) (n J5n (n J0N (n J0d (n J1E (n J2G (f J4Q) (f J6Z)) (n J3K (f J5U) z)) (n J1k (n J2o (f J4w) z) (n J3s (f J63) z))) (n (J0w P) (n J1U (n J2W (f J4g) z) (n J3c (f J5k) z)) (n J20 (n J34 (f (J5E P)) z) (n J48 (f J6J) z)))) (n J0V (n J0l (n J1M (n J2O (f J4Y) z) (n J3S (f J5c) z)) (n J1s (n J2w (f J54) z) (n J40 (f J6B) z))) (n J14 (n J1c (n J2e (f J4o) z) (n J3k (f J5v) z)) (n J28 (n J3C (f J5M) z) (n J4I (f J6R) z)))))) (n J06 (n J0A (n J0L (n J0b (n J1C (n J2E (f J4O) (f J6X)) (n J3I (f J5S) z)) (n J1i (n J2m (f J4u) z) (n J3q (f J61) z))) (n J0u (n J1S (n J2U (f (J4e P)) z) (n J3a (f J5i) z)) (n J1y (n J32 (f J5C) z) (n J46 (f J6H) z)))) (n J0T (n J0j (n J1K (n J2M (f J4W) z) (n J3Q (f J5a) z)) (n J1q (n J2u (f J52) z) (n J3y (f J69) z))) (n (J12 P) (n J1a (n (J2c P) (f J4m) z) (n J3i (f J5t) z)) (n J26 (n J3A (f J5K) z) (n J4E (f J6P) z))))) (n J0E (n J0P (n J0f (n J1G (n J2I (f J4S) (f (J6b P))) (n J3M (f J5W) z)) (n J1m (n J2q (f J4y) z) (n J3u (f J65) z))) (n J0y (n J1W (n J2Y (f J4i) z) (n J3e (f J5p) z)) (n J22 (n J36 (f J5G) z) (n (J4A P) (f J6L) z)))) (n J0X (n J0t (n J1O (n J2Q (f J4a) z) (n J3U (f J5e) z)) (n J1u (n J2y (f J56) z) (n J42 (f J6D) z))) (n J18 (n J1e (n J2g (f J4q) z) (n J3m (f J5x) z)) (n J2A (n (J3E P) (f J5O) z) (n (J4K P) (f J6T) z))))))))
noncomputable def S8 (w : World) (os : OsState) : SharedT := ⟨tr8 w.params, 394, {}, #[], {}, 688, os⟩
noncomputable def J6f (P : Params) := Zd #[E P "__name__" 165 (S "paperhold.matrix" 686), Q00 P, Q01 P, Q02 P, Q03 P, Q04 P, Q05 P, Q06 P, Q07 P, Q08 P, Q09 P, Q0A P, Q0B P, Q0D P, Q0E P, Q0F P, Q0G P, Q0H P, Q0I P, Q0J P, Q0K P, Q0L P, Q0M P, Q0N P, Q0O P, Q0P P, Q0Q P, Q0R P, Q0S P, Q0T P, Q0U P] 31
noncomputable def J6g := Zf #[(Zi 1), (Zi 0), (R 20), (Zi 5), (Zi 0), (R 27), (Zi 14), (Zi 0), (R 55), (Zi 17), (Zi 0), (R 67), (Zi 66), (Zi 0), (R 165), (Zi 68), (Zi 0), (R 172), (Zi 72), (Zi 0), (R 179), (Zi 78), (Zi 0), (R 186), (Zi 85), (Zi 0), (R 193), (Zi 89), (Zi 0), (R 214), (Zi 94), (Zi 0), (R 236), (Zi 99), (Zi 0), (R 257), (Zi 107), (Zi 0), (R 285), (Zi 129), (Zi 0), (R 292), (Zi 131), (Zi 0), (R 299), (Zi 145), (Zi 0), (R 304), (Zi 155), (Zi 0), (R 311), (Zi 174), (Zi 0), (R 347), (Zi 195), (Zi 0), (R 399), (Zi 226), (Zi 0), (R 453)]
noncomputable def J6h := Zt #[]
noncomputable def J6i := Zy "builtin_function_or_method" #[(U "type.__prepare__"), (Y "type")]
noncomputable def J6j (P : Params) := Zd #[E P "__module__" 695 (S "paperhold.matrix" 686), E P "__qualname__" 697 (S "Matrix" 696), E P "__firstlineno__" 699 (I 195 698), E P "__init__" 712 (R 407), E P "times" 726 (R 414), E P "applied" 737 (R 421), E P "shifted" 746 (R 428), E P "parts" 753 (R 435), E P "told" 759 (R 440), E P "__static_attributes__" 766 (R 441)] 10
noncomputable def J6k := Zt #[]
noncomputable def J6l := Zf #[(Zi 197), (Zi 4), (R 406), (Zi 205), (Zi 4), (R 413), (Zi 213), (Zi 4), (R 420), (Zi 218), (Zi 4), (R 427), (Zi 221), (Zi 4), (R 434), (Zi 224), (Zi 4), (R 439)]
noncomputable def J6m := Zk "Matrix" "Matrix" 690 691 692 195 0 0 0 0 397 false 181 398 .none .none .none 693 195 694
noncomputable def J6n : Obj := ⟨(Y "frame"), none, .plain, #[some (R 399), some (R 3), some (R 396), none, some (S "paperhold.matrix" 686), none, some (R 0)]⟩
noncomputable def J6o := Zt #[]
noncomputable def J6p := Zf #[]
noncomputable def J6q := Zt #[(S "self" 703), (S "a" 704), (S "b" 705), (S "c" 706), (S "d" 707), (S "e" 708), (S "f" 709)]
noncomputable def J6r := Zt #[]
noncomputable def J6s := Zm [24, 0] "__init__" "Matrix.__init__"
noncomputable def J6t := Zk "__init__" "Matrix.__init__" 700 701 702 197 7 0 0 3 401 true 181 402 (R 403) (R 404) (R 405) 710 197 711
noncomputable def J6u := Zu [24, 0] "__init__" "Matrix.__init__" (S "paperhold.matrix" 686) 406
noncomputable def J6v := Zt #[]
noncomputable def J6w := Zf #[]
noncomputable def J6x := Zt #[(S "self" 716), (S "other" 717), (S "a" 718), (S "b" 719), (S "c" 720), (S "d" 721), (S "e" 722), (S "f" 723)]
noncomputable def J6y := Zt #[]
noncomputable def J6z := Zm [24, 1] "times" "Matrix.times"
noncomputable def J70 := Zk "times" "Matrix.times" 713 714 715 205 2 0 0 3 408 true 181 409 (R 410) (R 411) (R 412) 724 205 725
noncomputable def J71 := Zu [24, 1] "times" "Matrix.times" (S "paperhold.matrix" 686) 413
noncomputable def J72 := Zt #[]
noncomputable def J73 := Zf #[]
noncomputable def J74 := Zt #[(S "self" 730), (S "x" 731), (S "y" 732), (S "right" 733), (S "up" 734)]
noncomputable def J75 := Zt #[]
noncomputable def J76 := Zm [24, 2] "applied" "Matrix.applied"
noncomputable def J77 := Zk "applied" "Matrix.applied" 727 728 729 213 3 0 0 3 415 true 181 416 (R 417) (R 418) (R 419) 735 213 736
noncomputable def J78 := Zu [24, 2] "applied" "Matrix.applied" (S "paperhold.matrix" 686) 420
noncomputable def J79 := Zt #[]
noncomputable def J7A := Zf #[]
noncomputable def J7B := Zt #[(S "self" 741), (S "x" 742), (S "y" 743)]
noncomputable def J7C := Zt #[]
noncomputable def J7D := Zm [24, 3] "shifted" "Matrix.shifted"
noncomputable def J7E := Zk "shifted" "Matrix.shifted" 738 739 740 218 3 0 0 3 422 true 181 423 (R 424) (R 425) (R 426) 744 218 745
noncomputable def J7F := Zu [24, 3] "shifted" "Matrix.shifted" (S "paperhold.matrix" 686) 427
noncomputable def J7G := Zt #[]
noncomputable def J7H := Zf #[]
noncomputable def J7I := Zt #[(S "self" 750)]
noncomputable def J7J := Zt #[]
noncomputable def J7K := Zm [24, 4] "parts" "Matrix.parts"
noncomputable def J7L := Zk "parts" "Matrix.parts" 747 748 749 221 1 0 0 3 429 true 181 430 (R 431) (R 432) (R 433) 751 221 752
noncomputable def J7M := Zu [24, 4] "parts" "Matrix.parts" (S "paperhold.matrix" 686) 434
noncomputable def J7N := Zt #[]
noncomputable def J7O := Zf #[]
noncomputable def J7P := Zm [24, 5] "told" "Matrix.told"
noncomputable def J7Q := Zk "told" "Matrix.told" 754 755 756 224 1 0 0 3 436 true 181 437 .none .none (R 438) 757 224 758
noncomputable def J7R := Zu [24, 5] "told" "Matrix.told" (S "paperhold.matrix" 686) 439
noncomputable def J7S := Zt #[(S "a" 760), (S "b" 761), (S "c" 762), (S "d" 763), (S "e" 764), (S "f" 765)]
noncomputable def J7T (P : Params) := Zd #[E P "__module__" 695 (S "paperhold.matrix" 686), E P "__firstlineno__" 699 (I 195 698), E P "__init__" 712 (R 407), E P "times" 726 (R 414), E P "applied" 737 (R 421), E P "shifted" 746 (R 428), E P "parts" 753 (R 435), E P "told" 759 (R 440), E P "__static_attributes__" 766 (R 441), E P "__dict__" 768 (R 444), E P "__weakref__" 770 (R 445), E P "__doc__" 771 .none] 4
noncomputable def J7U : Obj := ⟨(Y "type"), none, (.cls (cd "Matrix" [(Y "object")] [(R 443), (Y "object")] 442 "Matrix" true [] [] false none false)), #[none, none, some (S "Matrix" 688), some (S "Matrix" 696), some (U "object.__new__"), some (.bool true)]⟩
noncomputable def J7V := Zy "getset_descriptor" #[(S "__dict__" 767), (R 443), (U "function.__dict__"), (U "function.__dict__#set")]
noncomputable def J7W := Zy "getset_descriptor" #[(S "__weakref__" 769), (R 443), (U "ExceptionGroup.__weakref__"), .none]
noncomputable def J7X := Zy "super" #[(R 443), (R 443), (R 443)]
noncomputable def J7Y := Zy "builtin_function_or_method" #[(U "object.__init_subclass__"), (R 443)]
noncomputable def J7Z := Zt #[]
noncomputable def J7a := Zf #[]
noncomputable def J7b := Zt #[]
noncomputable def J7c := Zt #[]
noncomputable def J7d := Zm [25] "identity" "identity"
noncomputable def J7e := Zk "identity" "identity" 774 775 776 226 0 0 0 3 448 true 181 449 (R 450) (R 451) (R 452) 777 226 778
noncomputable def J7f := Zu [25] "identity" "identity" (S "paperhold.matrix" 686) 453
noncomputable def tr9 (P : Params) : BT := (n (J00 P) (n (J01 P) (n (J6f P) (n J07 (n J0I (n J0Y (n J19 (n J2B (f J4L) (f J6U)) (n J3F (f J5P) (f J7Y))) (n J1f (n J2h (f J4r) (f J72)) (n J3n (f J5y) z))) (n J0o (n J1P (n J2R (f J4b) (f J6m)) (n J3V (f J5f) z)) (n J1v (n J2z (f J57) (f J7I)) (n J43 (f J6E) z)))) (n J0Q (n J0g (n J1H (n J2J (f J4T) (f J6c)) (n J3N (f J5X) z)) (n J1n (n J2r (f J4z) (f J7A)) (n J3v (f J66) z))) (n J0z (n J1X (n J2Z (f J4j) (f J6u)) (n J3f (f J5q) z)) (n J23 (n J37 (f J5H) (f J7Q)) (n J4B (f J6M) z))))) (n J0B (n J0M (n J0c (n J1D (n J2F (f J4P) (f J6Y)) (n J3J (f J5T) (f J7c))) (n J1j (n J2n (f J4v) (f J76)) (n J3r (f J62) z))) (n J0v (n J1T (n J2V (f J4f) (f J6q)) (n (J3b P) (f J5j) z)) (n J1z (n J33 (f J5D) (f J7M)) (n J47 (f J6I) z)))) (n J0U (n J0k (n J1L (n J2N (f J4X) (f J6i)) (n (J3R P) (f J5b) z)) (n J1r (n J2v (f J53) (f J7E)) (n J3z (f J6A) z))) (n J13 (n J1b (n J2d (f J4n) (f J6y)) (n J3j (f J5u) z)) (n J27 (n J3B (f J5L) (f J7U)) (n J4F (f J6Q) z)))))) (n J05 (n J09 (n J0K (n J0a (n J1B (n J2D (f J4N) (f J6W)) (n J3H (f J5R) (f J7a))) (n J1h (n J2l (f J4t) (f J74)) (n (J3p P) (f J60) z))) (n J0q (n J1R (n J2T (f J4d) (f J6o)) (n J3Z (f J5o) z)) (n J1x (n J31 (f J59) (f J7K)) (n J45 (f J6G) z)))) (n J0S (n J0i (n J1J (n J2L (f J4V) (f J6e)) (n J3P (f J5Z) z)) (n J1p (n J2t (f J51) (f J7C)) (n (J3x P) (f J68) z))) (n J11 (n J1Z (n J2b (f J4l) (f J6w)) (n J3h (f J5s) z)) (n J25 (n J39 (f J5J) (f J7S)) (n J4D (f J6O) z))))) (n J0D (n J0O (n J0e (n J1F (n J2H (f J4R) (f J6a)) (n J3L (f J5V) (f J7e))) (n J1l (n J2p (f J4x) (f J78)) (n J3t (f J64) z))) (n J0x (n J1V (n J2X (f J4h) (f J6s)) (n J3d (f J5l) z)) (n J21 (n J35 (f J5F) (f J7O)) (n J49 (f J6K) z)))) (n J0W (n (J0m P) (n J1N (n J2P (f J4Z) (f J6k)) (n J3T (f J5d) z)) (n J1t (n J2x (f J55) (f J7G)) (n J41 (f J6C) z))) (n J15 (n J1d (n J2f (f J4p) (f J70)) (n J3l (f J5w) z)) (n J29 (n J3D (f J5N) (f J7W)) (n J4J (f J6S) z))))))) (n (J0F P) (n J04 (n J08 (n J0J (n J0Z (n (J1A P) (n J2C (f J4M) (f J6V)) (n J3G (f J5Q) (f J7Z))) (n J1g (n J2k (f J4s) (f J73)) (n J3o (f J5z) z))) (n J0p (n J1Q (n J2S (f J4c) (f J6n)) (n J3W (f (J5g P)) z)) (n J1w (n J30 (f J58) (f J7J)) (n J44 (f J6F) z)))) (n (J0R P) (n J0h (n J1I (n J2K (f J4U) (f J6d)) (n J3O (f J5Y) z)) (n J1o (n J2s (f J50) (f J7B)) (n J3w (f J67) z))) (n J10 (n J1Y (n J2a (f J4k) (f J6v)) (n J3g (f (J5r P)) z)) (n J24 (n J38 (f J5I) (f J7R)) (n J4C (f J6N) z))))) (n J6g (n J0N (n J0d (n J1E (n J2G (f J4Q) (f J6Z)) (n J3K (f J5U) (f J7d))) (n J1k (n J2o (f J4w) (f J77)) (n J3s (f J63) z))) (n (J0w P) (n J1U (n J2W (f J4g) (f J6r)) (n J3c (f J5k) z)) (n J20 (n J34 (f (J5E P)) (f J7N)) (n J48 (f J6J) z)))) (n J0V (n J0l (n J1M (n J2O (f J4Y) (f (J6j P))) (n J3S (f J5c) z)) (n J1s (n J2w (f J54) (f J7F)) (n J40 (f J6B) z))) (n J14 (n J1c (n J2e (f J4o) (f J6z)) (n J3k (f J5v) z)) (n J28 (n J3C (f J5M) (f J7V)) (n J4I (f J6R) z)))))) (n J06 (n J0A (n J0L (n J0b (n J1C (n J2E (f J4O) (f J6X)) (n J3I (f J5S) (f J7b))) (n J1i (n J2m (f J4u) (f J75)) (n J3q (f J61) z))) (n J0u (n J1S (n J2U (f (J4e P)) (f J6p)) (n J3a (f J5i) z)) (n J1y (n J32 (f J5C) (f J7L)) (n J46 (f J6H) z)))) (n J0T (n J0j (n J1K (n J2M (f J4W) (f J6h)) (n J3Q (f J5a) z)) (n J1q (n J2u (f J52) (f J7D)) (n J3y (f J69) z))) (n (J12 P) (n J1a (n (J2c P) (f J4m) (f J6x)) (n J3i (f J5t) z)) (n J26 (n J3A (f J5K) (f (J7T P))) (n J4E (f J6P) z))))) (n J0E (n J0P (n J0f (n J1G (n J2I (f J4S) (f (J6b P))) (n J3M (f J5W) (f J7f))) (n J1m (n J2q (f J4y) (f J79)) (n J3u (f J65) z))) (n J0y (n J1W (n J2Y (f J4i) (f J6t)) (n J3e (f J5p) z)) (n J22 (n J36 (f J5G) (f J7P)) (n (J4A P) (f J6L) z)))) (n J0X (n J0t (n J1O (n J2Q (f J4a) (f J6l)) (n J3U (f J5e) z)) (n J1u (n J2y (f J56) (f J7H)) (n J42 (f J6D) z))) (n J18 (n J1e (n J2g (f J4q) (f J71)) (n J3m (f J5x) z)) (n J2A (n (J3E P) (f J5O) (f J7X)) (n (J4K P) (f J6T) z))))))))
noncomputable def S9 (w : World) (os : OsState) : SharedT := ⟨tr9 w.params, 455, {}, #[], {}, 780, os⟩
noncomputable def J7g (P : Params) := Zd #[E P "__name__" 165 (S "paperhold.paths" 788), Q00 P, Q01 P, Q02 P, Q03 P, Q04 P, Q05 P, Q06 P, Q07 P, Q08 P, Q09 P, Q0A P, Q0B P, Q0D P, Q0E P, Q0F P, Q0G P, Q0H P, Q0I P, Q0J P, Q0K P, Q0L P, Q0M P, Q0N P, Q0O P, Q0P P, Q0Q P, Q0R P, Q0S P, Q0T P, Q0U P, Q0V P, Q0W P, Q0X P, Q0Y P, Q0Z P, Q0a P, Q0b P, Q0c P] 39
noncomputable def J7h := Zf #[(Zi 1), (Zi 0), (R 20), (Zi 5), (Zi 0), (R 27), (Zi 14), (Zi 0), (R 55), (Zi 17), (Zi 0), (R 67), (Zi 66), (Zi 0), (R 165), (Zi 68), (Zi 0), (R 172), (Zi 72), (Zi 0), (R 179), (Zi 78), (Zi 0), (R 186), (Zi 85), (Zi 0), (R 193), (Zi 89), (Zi 0), (R 214), (Zi 94), (Zi 0), (R 236), (Zi 99), (Zi 0), (R 257), (Zi 107), (Zi 0), (R 285), (Zi 129), (Zi 0), (R 292), (Zi 131), (Zi 0), (R 299), (Zi 145), (Zi 0), (R 304), (Zi 155), (Zi 0), (R 311), (Zi 174), (Zi 0), (R 347), (Zi 195), (Zi 0), (R 399), (Zi 226), (Zi 0), (R 453), (Zi 228), (Zi 0), (R 460), (Zi 231), (Zi 0), (R 467), (Zi 235), (Zi 0), (R 490), (Zi 237), (Zi 0), (R 497), (Zi 239), (Zi 0), (R 504), (Zi 246), (Zi 0), (R 511), (Zi 249), (Zi 0), (R 518), (Zi 251), (Zi 0), (R 525)]
noncomputable def J7i := Zt #[]
noncomputable def J7j := Zf #[]
noncomputable def J7k := Zt #[(S "x" 783), (S "y" 784)]
noncomputable def J7l := Zt #[]
noncomputable def J7m := Zm [26] "translation" "translation"
noncomputable def J7n := Zk "translation" "translation" 780 781 782 228 2 0 0 3 455 true 181 456 (R 457) (R 458) (R 459) 785 228 786
noncomputable def J7o := Zu [26] "translation" "translation" (S "paperhold.matrix" 686) 460
noncomputable def J7p := Zt #[]
noncomputable def J7q := Zy "builtin_function_or_method" #[(U "type.__prepare__"), (Y "type")]
noncomputable def J7r (P : Params) := Zd #[E P "__module__" 797 (S "paperhold.paths" 788), E P "__qualname__" 799 (S "Path" 798), E P "__firstlineno__" 801 (I 231 800), E P "__init__" 809 (R 477), E P "__static_attributes__" 811 (R 478)] 5
noncomputable def J7s := Zt #[]
noncomputable def J7t := Zf #[(Zi 233), (Zi 4), (R 476)]
noncomputable def J7u := Zk "Path" "Path" 792 793 794 231 0 0 0 0 465 false 181 466 .none .none .none 795 231 796
noncomputable def J7v : Obj := ⟨(Y "frame"), none, .plain, #[some (R 467), some (R 3), some (R 464), none, some (S "paperhold.paths" 788), none, some (R 0)]⟩
noncomputable def J7w := Zt #[]
noncomputable def J7x := Zt #[(R 469)]
noncomputable def J7y := Zt #[]
noncomputable def J7z := Zf #[]
noncomputable def J80 := Zt #[(S "self" 805), (S "parts" 806)]
noncomputable def J81 := Zt #[]
noncomputable def J82 := Zm [28, 0] "__init__" "Path.__init__"
noncomputable def J83 := Zk "__init__" "Path.__init__" 802 803 804 233 2 0 0 3 471 true 181 472 (R 473) (R 474) (R 475) 807 233 808
noncomputable def J84 : Obj := ⟨(Y "function"), none, (.func (fd [28, 0] "__init__" "Path.__init__" 3 [] (R 470) .none .none (S "paperhold.paths" 788) none (R 476) .none 0)), #[]⟩
noncomputable def J85 := Zt #[(S "parts" 810)]
noncomputable def J86 (P : Params) := Zd #[E P "__module__" 797 (S "paperhold.paths" 788), E P "__firstlineno__" 801 (I 231 800), E P "__init__" 809 (R 477), E P "__static_attributes__" 811 (R 478), E P "__dict__" 813 (R 481), E P "__weakref__" 815 (R 482), E P "__doc__" 816 .none] 4
noncomputable def J87 : Obj := ⟨(Y "type"), none, (.cls (cd "Path" [(Y "object")] [(R 480), (Y "object")] 479 "Path" true [] [] false none false)), #[none, none, some (S "Path" 790), some (S "Path" 798), some (U "object.__new__"), some (.bool true)]⟩
noncomputable def J88 := Zy "getset_descriptor" #[(S "__dict__" 812), (R 480), (U "function.__dict__"), (U "function.__dict__#set")]
noncomputable def J89 := Zy "getset_descriptor" #[(S "__weakref__" 814), (R 480), (U "ExceptionGroup.__weakref__"), .none]
noncomputable def J8A := Zy "super" #[(R 480), (R 480), (R 480)]
noncomputable def J8B := Zy "builtin_function_or_method" #[(U "object.__init_subclass__"), (R 480)]
noncomputable def J8C := Zt #[]
noncomputable def J8D := Zf #[]
noncomputable def J8E := Zt #[(S "x" 822), (S "y" 823)]
noncomputable def J8F := Zt #[]
noncomputable def J8G := Zm [29] "pair_of" "pair_of"
noncomputable def J8H := Zk "pair_of" "pair_of" 819 820 821 235 2 0 0 3 485 true 181 486 (R 487) (R 488) (R 489) 824 235 825
noncomputable def J8I := Zu [29] "pair_of" "pair_of" (S "paperhold.paths" 788) 490
noncomputable def J8J := Zt #[]
noncomputable def J8K := Zf #[]
noncomputable def J8L := Zt #[(S "part" 830)]
noncomputable def J8M := Zt #[]
noncomputable def J8N := Zm [30] "is_shut" "is_shut"
noncomputable def J8O := Zk "is_shut" "is_shut" 827 828 829 237 1 0 0 3 492 true 181 493 (R 494) (R 495) (R 496) 831 237 832
noncomputable def J8P := Zu [30] "is_shut" "is_shut" (S "paperhold.paths" 788) 497
noncomputable def J8Q := Zt #[]
noncomputable def J8R := Zf #[]
noncomputable def J8S := Zt #[(S "path" 837), (S "part" 838)]
noncomputable def J8T := Zt #[]
noncomputable def J8U := Zm [31] "current_point" "current_point"
noncomputable def J8V := Zk "current_point" "current_point" 834 835 836 239 1 0 0 3 499 true 181 500 (R 501) (R 502) (R 503) 839 239 840
noncomputable def J8W := Zu [31] "current_point" "current_point" (S "paperhold.paths" 788) 504
noncomputable def J8X := Zt #[]
noncomputable def J8Y := Zf #[]
noncomputable def J8Z := Zt #[(S "path" 845), (S "parts" 846)]
noncomputable def J8a := Zt #[]
noncomputable def J8b := Zm [32] "drawn_parts" "drawn_parts"
noncomputable def J8c := Zk "drawn_parts" "drawn_parts" 842 843 844 246 1 0 0 3 506 true 181 507 (R 508) (R 509) (R 510) 847 246 848
noncomputable def J8d := Zu [32] "drawn_parts" "drawn_parts" (S "paperhold.paths" 788) 511
noncomputable def J8e := Zt #[]
noncomputable def J8f := Zf #[]
noncomputable def J8g := Zt #[(S "path" 853), (S "x" 854), (S "y" 855)]
noncomputable def J8h := Zt #[]
noncomputable def J8i := Zm [33] "move_to" "move_to"
noncomputable def J8j := Zk "move_to" "move_to" 850 851 852 249 3 0 0 3 513 true 181 514 (R 515) (R 516) (R 517) 856 249 857
noncomputable def J8k := Zu [33] "move_to" "move_to" (S "paperhold.paths" 788) 518
noncomputable def J8l := Zt #[]
noncomputable def J8m := Zf #[]
noncomputable def J8n := Zt #[(S "path" 862), (S "segment" 863), (S "start" 864), (S "part" 865)]
noncomputable def J8o := Zt #[]
noncomputable def J8p := Zm [34] "path_with" "path_with"
noncomputable def J8q := Zk "path_with" "path_with" 859 860 861 251 2 0 0 3 520 true 181 521 (R 522) (R 523) (R 524) 866 251 867
noncomputable def J8r := Zu [34] "path_with" "path_with" (S "paperhold.paths" 788) 525
noncomputable def tr10 (P : Params) : BT := (n (J00 P) (n (J01 P) (n (J7g P) (n J07 (n J0I (n J0Y (n J19 (n J2B (n J4L (f J8c) z) (f J6U)) (n J3F (f J5P) (f J7Y))) (n J1f (n J2h (f J4r) (f J72)) (n J3n (f J5y) (f (J86 P))))) (n J0o (n J1P (n J2R (f J4b) (f J6m)) (n J3V (f J5f) (f J7q))) (n J1v (n J2z (f J57) (f J7I)) (n J43 (f J6E) (f J8M))))) (n J0Q (n J0g (n J1H (n J2J (n J4T (f J8k) z) (f J6c)) (n J3N (f J5X) (f J7i))) (n J1n (n J2r (f J4z) (f J7A)) (n J3v (f J66) (f J8E)))) (n J0z (n J1X (n J2Z (f J4j) (f J6u)) (n J3f (f J5q) (f J7y))) (n J23 (n J37 (f J5H) (f J7Q)) (n J4B (f J6M) (f J8U)))))) (n J0B (n J0M (n J0c (n J1D (n J2F (n J4P (f J8g) z) (f J6Y)) (n J3J (f J5T) (f J7c))) (n J1j (n J2n (f J4v) (f J76)) (n J3r (f J62) (f J8A)))) (n J0v (n J1T (n J2V (f J4f) (f J6q)) (n (J3b P) (f J5j) (f J7u))) (n J1z (n J33 (f J5D) (f J7M)) (n J47 (f J6I) (f J8Q))))) (n J0U (n J0k (n J1L (n J2N (n J4X (f J8o) z) (f J6i)) (n (J3R P) (f J5b) (f J7m))) (n J1r (n J2v (f J53) (f J7E)) (n J3z (f J6A) (f J8I)))) (n J13 (n J1b (n J2d (f J4n) (f J6y)) (n J3j (f J5u) (f J82))) (n J27 (n J3B (f J5L) (f J7U)) (n J4F (f J6Q) (f J8Y))))))) (n J05 (n J09 (n J0K (n J0a (n J1B (n J2D (n J4N (f J8e) z) (f J6W)) (n J3H (f J5R) (f J7a))) (n J1h (n J2l (f J4t) (f J74)) (n (J3p P) (f J60) (f J88)))) (n J0q (n J1R (n J2T (f J4d) (f J6o)) (n J3Z (f J5o) (f J7s))) (n J1x (n J31 (f J59) (f J7K)) (n J45 (f J6G) (f J8O))))) (n J0S (n J0i (n J1J (n J2L (n J4V (f J8m) z) (f J6e)) (n J3P (f J5Z) (f J7k))) (n J1p (n J2t (f J51) (f J7C)) (n (J3x P) (f J68) (f J8G)))) (n J11 (n J1Z (n J2b (f J4l) (f J6w)) (n J3h (f J5s) (f J80))) (n J25 (n J39 (f J5J) (f J7S)) (n J4D (f J6O) (f J8W)))))) (n J0D (n J0O (n J0e (n J1F (n J2H (n J4R (f J8i) z) (f J6a)) (n J3L (f J5V) (f J7e))) (n J1l (n J2p (f J4x) (f J78)) (n J3t (f J64) (f J8C)))) (n J0x (n J1V (n J2X (f J4h) (f J6s)) (n J3d (f J5l) (f J7w))) (n J21 (n J35 (f J5F) (f J7O)) (n J49 (f J6K) (f J8S))))) (n J0W (n (J0m P) (n J1N (n J2P (n J4Z (f J8q) z) (f J6k)) (n J3T (f J5d) (f J7o))) (n J1t (n J2x (f J55) (f J7G)) (n J41 (f J6C) (f J8K)))) (n J15 (n J1d (n J2f (f J4p) (f J70)) (n J3l (f J5w) (f J84))) (n J29 (n J3D (f J5N) (f J7W)) (n J4J (f J6S) (f J8a)))))))) (n (J0F P) (n J04 (n J08 (n J0J (n J0Z (n (J1A P) (n J2C (n J4M (f J8d) z) (f J6V)) (n J3G (f J5Q) (f J7Z))) (n J1g (n J2k (f J4s) (f J73)) (n J3o (f J5z) (f J87)))) (n J0p (n J1Q (n J2S (f J4c) (f J6n)) (n J3W (f (J5g P)) (f (J7r P)))) (n J1w (n J30 (f J58) (f J7J)) (n J44 (f J6F) (f J8N))))) (n (J0R P) (n J0h (n J1I (n J2K (n J4U (f J8l) z) (f J6d)) (n J3O (f J5Y) (f J7j))) (n J1o (n J2s (f J50) (f J7B)) (n J3w (f J67) (f J8F)))) (n J10 (n J1Y (n J2a (f J4k) (f J6v)) (n J3g (f (J5r P)) (f J7z))) (n J24 (n J38 (f J5I) (f J7R)) (n J4C (f J6N) (f J8V)))))) (n J7h (n J0N (n J0d (n J1E (n J2G (n J4Q (f J8h) z) (f J6Z)) (n J3K (f J5U) (f J7d))) (n J1k (n J2o (f J4w) (f J77)) (n J3s (f J63) (f J8B)))) (n (J0w P) (n J1U (n J2W (f J4g) (f J6r)) (n J3c (f J5k) (f J7v))) (n J20 (n J34 (f (J5E P)) (f J7N)) (n J48 (f J6J) (f J8R))))) (n J0V (n J0l (n J1M (n J2O (n J4Y (f J8p) z) (f (J6j P))) (n J3S (f J5c) (f J7n))) (n J1s (n J2w (f J54) (f J7F)) (n J40 (f J6B) (f J8J)))) (n J14 (n J1c (n J2e (f J4o) (f J6z)) (n J3k (f J5v) (f J83))) (n J28 (n J3C (f J5M) (f J7V)) (n J4I (f J6R) (f J8Z))))))) (n J06 (n J0A (n J0L (n J0b (n J1C (n J2E (n J4O (f J8f) z) (f J6X)) (n J3I (f J5S) (f J7b))) (n J1i (n J2m (f J4u) (f J75)) (n J3q (f J61) (f J89)))) (n J0u (n J1S (n J2U (f (J4e P)) (f J6p)) (n J3a (f J5i) (f J7t))) (n J1y (n J32 (f J5C) (f J7L)) (n J46 (f J6H) (f J8P))))) (n J0T (n J0j (n J1K (n J2M (n J4W (f J8n) z) (f J6h)) (n J3Q (f J5a) (f J7l))) (n J1q (n J2u (f J52) (f J7D)) (n J3y (f J69) (f J8H)))) (n (J12 P) (n J1a (n (J2c P) (f J4m) (f J6x)) (n J3i (f J5t) (f J81))) (n J26 (n J3A (f J5K) (f (J7T P))) (n J4E (f J6P) (f J8X)))))) (n J0E (n J0P (n J0f (n J1G (n J2I (n J4S (f J8j) z) (f (J6b P))) (n J3M (f J5W) (f J7f))) (n J1m (n J2q (f J4y) (f J79)) (n J3u (f J65) (f J8D)))) (n J0y (n J1W (n J2Y (f J4i) (f J6t)) (n J3e (f J5p) (f J7x))) (n J22 (n J36 (f J5G) (f J7P)) (n (J4A P) (f J6L) (f J8T))))) (n J0X (n J0t (n J1O (n J2Q (n J4a (f J8r) z) (f J6l)) (n J3U (f J5e) (f J7p))) (n J1u (n J2y (f J56) (f J7H)) (n J42 (f J6D) (f J8L)))) (n J18 (n J1e (n J2g (f J4q) (f J71)) (n J3m (f J5x) (f J85))) (n J2A (n (J3E P) (f J5O) (f J7X)) (n (J4K P) (f J6T) (f J8b)))))))))
noncomputable def S10 (w : World) (os : OsState) : SharedT := ⟨tr10 w.params, 527, {}, #[], {}, 869, os⟩
noncomputable def J8s (P : Params) := Zd #[E P "__name__" 165 (S "paperhold.inks" 946), Q00 P, Q01 P, Q02 P, Q03 P, Q04 P, Q05 P, Q06 P, Q07 P, Q08 P, Q09 P, Q0A P, Q0B P, Q0D P, Q0E P, Q0F P, Q0G P, Q0H P, Q0I P, Q0J P, Q0K P, Q0L P, Q0M P, Q0N P, Q0O P, Q0P P, Q0Q P, Q0R P, Q0S P, Q0T P, Q0U P, Q0V P, Q0W P, Q0X P, Q0Y P, Q0Z P, Q0a P, Q0b P, Q0c P, Q0d P, Q0e P, Q0f P, Q0g P, Q0h P, Q0i P, Q0j P, Q0k P] 47
noncomputable def J8t := Zf #[(Zi 1), (Zi 0), (R 20), (Zi 5), (Zi 0), (R 27), (Zi 14), (Zi 0), (R 55), (Zi 17), (Zi 0), (R 67), (Zi 66), (Zi 0), (R 165), (Zi 68), (Zi 0), (R 172), (Zi 72), (Zi 0), (R 179), (Zi 78), (Zi 0), (R 186), (Zi 85), (Zi 0), (R 193), (Zi 89), (Zi 0), (R 214), (Zi 94), (Zi 0), (R 236), (Zi 99), (Zi 0), (R 257), (Zi 107), (Zi 0), (R 285), (Zi 129), (Zi 0), (R 292), (Zi 131), (Zi 0), (R 299), (Zi 145), (Zi 0), (R 304), (Zi 155), (Zi 0), (R 311), (Zi 174), (Zi 0), (R 347), (Zi 195), (Zi 0), (R 399), (Zi 226), (Zi 0), (R 453), (Zi 228), (Zi 0), (R 460), (Zi 231), (Zi 0), (R 467), (Zi 235), (Zi 0), (R 490), (Zi 237), (Zi 0), (R 497), (Zi 239), (Zi 0), (R 504), (Zi 246), (Zi 0), (R 511), (Zi 249), (Zi 0), (R 518), (Zi 251), (Zi 0), (R 525), (Zi 259), (Zi 0), (R 532), (Zi 261), (Zi 0), (R 539), (Zi 263), (Zi 0), (R 546), (Zi 268), (Zi 0), (R 553), (Zi 270), (Zi 0), (R 560), (Zi 277), (Zi 0), (R 567), (Zi 285), (Zi 0), (R 572), (Zi 290), (Zi 0), (R 579)]
noncomputable def J8u := Zt #[]
noncomputable def J8v := Zf #[]
noncomputable def J8w := Zt #[(S "path" 872), (S "x" 873), (S "y" 874)]
noncomputable def J8x := Zt #[]
noncomputable def J8y := Zm [35] "line_to" "line_to"
noncomputable def J8z := Zk "line_to" "line_to" 869 870 871 259 3 0 0 3 527 true 181 528 (R 529) (R 530) (R 531) 875 259 876
noncomputable def J90 := Zu [35] "line_to" "line_to" (S "paperhold.paths" 788) 532
noncomputable def J91 := Zt #[]
noncomputable def J92 := Zf #[]
noncomputable def J93 := Zt #[(S "path" 881), (S "first" 882), (S "second" 883), (S "end" 884)]
noncomputable def J94 := Zt #[]
noncomputable def J95 := Zm [36] "curve_to" "curve_to"
noncomputable def J96 := Zk "curve_to" "curve_to" 878 879 880 261 4 0 0 3 534 true 181 535 (R 536) (R 537) (R 538) 885 261 886
noncomputable def J97 := Zu [36] "curve_to" "curve_to" (S "paperhold.paths" 788) 539
noncomputable def J98 := Zt #[]
noncomputable def J99 := Zf #[]
noncomputable def J9A := Zt #[(S "path" 891), (S "second" 892), (S "end" 893), (S "start" 894)]
noncomputable def J9B := Zt #[]
noncomputable def J9C := Zm [37] "curve_from" "curve_from"
noncomputable def J9D := Zk "curve_from" "curve_from" 888 889 890 263 3 0 0 3 541 true 181 542 (R 543) (R 544) (R 545) 895 263 896
noncomputable def J9E := Zu [37] "curve_from" "curve_from" (S "paperhold.paths" 788) 546
noncomputable def J9F := Zt #[]
noncomputable def J9G := Zf #[]
noncomputable def J9H := Zt #[(S "path" 901), (S "first" 902), (S "end" 903)]
noncomputable def J9I := Zt #[]
noncomputable def J9J := Zm [38] "curve_into" "curve_into"
noncomputable def J9K := Zk "curve_into" "curve_into" 898 899 900 268 3 0 0 3 548 true 181 549 (R 550) (R 551) (R 552) 904 268 905
noncomputable def J9L := Zu [38] "curve_into" "curve_into" (S "paperhold.paths" 788) 553
noncomputable def J9M := Zt #[]
noncomputable def J9N := Zf #[]
noncomputable def J9O := Zt #[(S "path" 910), (S "part" 911)]
noncomputable def J9P := Zt #[]
noncomputable def J9Q := Zm [39] "close_path" "close_path"
noncomputable def J9R := Zk "close_path" "close_path" 907 908 909 270 1 0 0 3 555 true 181 556 (R 557) (R 558) (R 559) 912 270 913
noncomputable def J9S := Zu [39] "close_path" "close_path" (S "paperhold.paths" 788) 560
noncomputable def J9T := Zt #[]
noncomputable def J9U := Zf #[]
noncomputable def J9V := Zt #[(S "path" 918), (S "x" 919), (S "y" 920), (S "width" 921), (S "height" 922), (S "left" 923), (S "low" 924), (S "right" 925), (S "high" 926), (S "corner" 927)]
noncomputable def J9W := Zt #[]
noncomputable def J9X := Zm [40] "rectangle" "rectangle"
noncomputable def J9Y := Zk "rectangle" "rectangle" 915 916 917 277 5 0 0 3 562 true 181 563 (R 564) (R 565) (R 566) 928 277 929
noncomputable def J9Z := Zu [40] "rectangle" "rectangle" (S "paperhold.paths" 788) 567
noncomputable def J9a := Zt #[]
noncomputable def J9b := Zf #[]
noncomputable def J9c := Zm [41] "each_point" "each_point"
noncomputable def J9d := Zk "each_point" "each_point" 931 932 933 285 2 0 0 3 569 true 181 570 .none .none (R 571) 934 285 935
noncomputable def J9e := Zu [41] "each_point" "each_point" (S "paperhold.paths" 788) 572
noncomputable def J9f := Zt #[]
noncomputable def J9g := Zf #[]
noncomputable def J9h := Zt #[(S "path" 940), (S "matrix" 941)]
noncomputable def J9i := Zt #[(S "matrix" 942)]
noncomputable def J9j := Zm [42] "transformed" "transformed"
noncomputable def J9k := Zk "transformed" "transformed" 937 938 939 290 2 0 0 3 574 true 181 575 (R 576) (R 577) (R 578) 943 290 944
noncomputable def J9l := Zu [42] "transformed" "transformed" (S "paperhold.paths" 788) 579
noncomputable def tr11 (P : Params) : BT := (n (J00 P) (n (J01 P) (n (J8s P) (n J07 (n J0I (n J0Y (n J19 (n J2B (n J4L (f J8c) z) (f J6U)) (n J3F (n J5P (f J9g) z) (f J7Y))) (n J1f (n J2h (n J4r (f J9A) z) (f J72)) (n J3n (f J5y) (f (J86 P))))) (n J0o (n J1P (n J2R (n J4b (f J8u) z) (f J6m)) (n J3V (f J5f) (f J7q))) (n J1v (n J2z (n J57 (f J9Q) z) (f J7I)) (n J43 (f J6E) (f J8M))))) (n J0Q (n J0g (n J1H (n J2J (n J4T (f J8k) z) (f J6c)) (n J3N (f J5X) (f J7i))) (n J1n (n J2r (n J4z (f J9I) z) (f J7A)) (n J3v (f J66) (f J8E)))) (n J0z (n J1X (n J2Z (n J4j (f J92) z) (f J6u)) (n J3f (f J5q) (f J7y))) (n J23 (n J37 (n J5H (f J9Y) z) (f J7Q)) (n J4B (f J6M) (f J8U)))))) (n J0B (n J0M (n J0c (n J1D (n J2F (n J4P (f J8g) z) (f J6Y)) (n J3J (n J5T (f J9k) z) (f J7c))) (n J1j (n J2n (n J4v (f J9E) z) (f J76)) (n J3r (f J62) (f J8A)))) (n J0v (n J1T (n J2V (n J4f (f J8y) z) (f J6q)) (n (J3b P) (f J5j) (f J7u))) (n J1z (n J33 (n J5D (f J9U) z) (f J7M)) (n J47 (f J6I) (f J8Q))))) (n J0U (n J0k (n J1L (n J2N (n J4X (f J8o) z) (f J6i)) (n (J3R P) (f J5b) (f J7m))) (n J1r (n J2v (n J53 (f J9M) z) (f J7E)) (n J3z (f J6A) (f J8I)))) (n J13 (n J1b (n J2d (n J4n (f J96) z) (f J6y)) (n J3j (f J5u) (f J82))) (n J27 (n J3B (n J5L (f J9c) z) (f J7U)) (n J4F (f J6Q) (f J8Y))))))) (n J05 (n J09 (n J0K (n J0a (n J1B (n J2D (n J4N (f J8e) z) (f J6W)) (n J3H (n J5R (f J9i) z) (f J7a))) (n J1h (n J2l (n J4t (f J9C) z) (f J74)) (n (J3p P) (f J60) (f J88)))) (n J0q (n J1R (n J2T (n J4d (f J8w) z) (f J6o)) (n J3Z (f J5o) (f J7s))) (n J1x (n J31 (n J59 (f J9S) z) (f J7K)) (n J45 (f J6G) (f J8O))))) (n J0S (n J0i (n J1J (n J2L (n J4V (f J8m) z) (f J6e)) (n J3P (f J5Z) (f J7k))) (n J1p (n J2t (n J51 (f J9K) z) (f J7C)) (n (J3x P) (f J68) (f J8G)))) (n J11 (n J1Z (n J2b (n J4l (f J94) z) (f J6w)) (n J3h (f J5s) (f J80))) (n J25 (n J39 (n J5J (f J9a) z) (f J7S)) (n J4D (f J6O) (f J8W)))))) (n J0D (n J0O (n J0e (n J1F (n J2H (n J4R (f J8i) z) (f J6a)) (n J3L (f J5V) (f J7e))) (n J1l (n J2p (n J4x (f J9G) z) (f J78)) (n J3t (f J64) (f J8C)))) (n J0x (n J1V (n J2X (n J4h (f J90) z) (f J6s)) (n J3d (f J5l) (f J7w))) (n J21 (n J35 (n J5F (f J9W) z) (f J7O)) (n J49 (f J6K) (f J8S))))) (n J0W (n (J0m P) (n J1N (n J2P (n J4Z (f J8q) z) (f J6k)) (n J3T (f J5d) (f J7o))) (n J1t (n J2x (n J55 (f J9O) z) (f J7G)) (n J41 (f J6C) (f J8K)))) (n J15 (n J1d (n J2f (n J4p (f J98) z) (f J70)) (n J3l (f J5w) (f J84))) (n J29 (n J3D (n J5N (f J9e) z) (f J7W)) (n J4J (f J6S) (f J8a)))))))) (n (J0F P) (n J04 (n J08 (n J0J (n J0Z (n (J1A P) (n J2C (n J4M (f J8d) z) (f J6V)) (n J3G (n J5Q (f J9h) z) (f J7Z))) (n J1g (n J2k (n J4s (f J9B) z) (f J73)) (n J3o (f J5z) (f J87)))) (n J0p (n J1Q (n J2S (n J4c (f J8v) z) (f J6n)) (n J3W (f (J5g P)) (f (J7r P)))) (n J1w (n J30 (n J58 (f J9R) z) (f J7J)) (n J44 (f J6F) (f J8N))))) (n (J0R P) (n J0h (n J1I (n J2K (n J4U (f J8l) z) (f J6d)) (n J3O (f J5Y) (f J7j))) (n J1o (n J2s (n J50 (f J9J) z) (f J7B)) (n J3w (f J67) (f J8F)))) (n J10 (n J1Y (n J2a (n J4k (f J93) z) (f J6v)) (n J3g (f (J5r P)) (f J7z))) (n J24 (n J38 (n J5I (f J9Z) z) (f J7R)) (n J4C (f J6N) (f J8V)))))) (n J8t (n J0N (n J0d (n J1E (n J2G (n J4Q (f J8h) z) (f J6Z)) (n J3K (n J5U (f J9l) z) (f J7d))) (n J1k (n J2o (n J4w (f J9F) z) (f J77)) (n J3s (f J63) (f J8B)))) (n (J0w P) (n J1U (n J2W (n J4g (f J8z) z) (f J6r)) (n J3c (f J5k) (f J7v))) (n J20 (n J34 (n (J5E P) (f J9V) z) (f J7N)) (n J48 (f J6J) (f J8R))))) (n J0V (n J0l (n J1M (n J2O (n J4Y (f J8p) z) (f (J6j P))) (n J3S (f J5c) (f J7n))) (n J1s (n J2w (n J54 (f J9N) z) (f J7F)) (n J40 (f J6B) (f J8J)))) (n J14 (n J1c (n J2e (n J4o (f J97) z) (f J6z)) (n J3k (f J5v) (f J83))) (n J28 (n J3C (n J5M (f J9d) z) (f J7V)) (n J4I (f J6R) (f J8Z))))))) (n J06 (n J0A (n J0L (n J0b (n J1C (n J2E (n J4O (f J8f) z) (f J6X)) (n J3I (n J5S (f J9j) z) (f J7b))) (n J1i (n J2m (n J4u (f J9D) z) (f J75)) (n J3q (f J61) (f J89)))) (n J0u (n J1S (n J2U (n (J4e P) (f J8x) z) (f J6p)) (n J3a (f J5i) (f J7t))) (n J1y (n J32 (n J5C (f J9T) z) (f J7L)) (n J46 (f J6H) (f J8P))))) (n J0T (n J0j (n J1K (n J2M (n J4W (f J8n) z) (f J6h)) (n J3Q (f J5a) (f J7l))) (n J1q (n J2u (n J52 (f J9L) z) (f J7D)) (n J3y (f J69) (f J8H)))) (n (J12 P) (n J1a (n (J2c P) (n J4m (f J95) z) (f J6x)) (n J3i (f J5t) (f J81))) (n J26 (n J3A (n J5K (f J9b) z) (f (J7T P))) (n J4E (f J6P) (f J8X)))))) (n J0E (n J0P (n J0f (n J1G (n J2I (n J4S (f J8j) z) (f (J6b P))) (n J3M (f J5W) (f J7f))) (n J1m (n J2q (n J4y (f J9H) z) (f J79)) (n J3u (f J65) (f J8D)))) (n J0y (n J1W (n J2Y (n J4i (f J91) z) (f J6t)) (n J3e (f J5p) (f J7x))) (n J22 (n J36 (n J5G (f J9X) z) (f J7P)) (n (J4A P) (f J6L) (f J8T))))) (n J0X (n J0t (n J1O (n J2Q (n J4a (f J8r) z) (f J6l)) (n J3U (f J5e) (f J7p))) (n J1u (n J2y (n J56 (f J9P) z) (f J7H)) (n J42 (f J6D) (f J8L)))) (n J18 (n J1e (n J2g (n J4q (f J99) z) (f J71)) (n J3m (f J5x) (f J85))) (n J2A (n (J3E P) (n J5O (f J9f) z) (f J7X)) (n (J4K P) (f J6T) (f J8b)))))))))
noncomputable def S11 (w : World) (os : OsState) : SharedT := ⟨tr11 w.params, 581, {}, #[], {}, 948, os⟩
noncomputable def J9m (P : Params) := Zd #[E P "__name__" 165 (S "paperhold.inks" 946), Q00 P, Q01 P, Q02 P, Q03 P, Q04 P, Q05 P, Q06 P, Q07 P, Q08 P, Q09 P, Q0A P, Q0B P, Q0D P, Q0E P, Q0F P, Q0G P, Q0H P, Q0I P, Q0J P, Q0K P, Q0L P, Q0M P, Q0N P, Q0O P, Q0P P, Q0Q P, Q0R P, Q0S P, Q0T P, Q0U P, Q0V P, Q0W P, Q0X P, Q0Y P, Q0Z P, Q0a P, Q0b P, Q0c P, Q0d P, Q0e P, Q0f P, Q0g P, Q0h P, Q0i P, Q0j P, Q0k P, Q0l P, Q0m P, Q0n P, Q0o P, Q0p P, Q0q P, Q0r P, Q0s P] 55
noncomputable def J9n := Zf #[(Zi 1), (Zi 0), (R 20), (Zi 5), (Zi 0), (R 27), (Zi 14), (Zi 0), (R 55), (Zi 17), (Zi 0), (R 67), (Zi 66), (Zi 0), (R 165), (Zi 68), (Zi 0), (R 172), (Zi 72), (Zi 0), (R 179), (Zi 78), (Zi 0), (R 186), (Zi 85), (Zi 0), (R 193), (Zi 89), (Zi 0), (R 214), (Zi 94), (Zi 0), (R 236), (Zi 99), (Zi 0), (R 257), (Zi 107), (Zi 0), (R 285), (Zi 129), (Zi 0), (R 292), (Zi 131), (Zi 0), (R 299), (Zi 145), (Zi 0), (R 304), (Zi 155), (Zi 0), (R 311), (Zi 174), (Zi 0), (R 347), (Zi 195), (Zi 0), (R 399), (Zi 226), (Zi 0), (R 453), (Zi 228), (Zi 0), (R 460), (Zi 231), (Zi 0), (R 467), (Zi 235), (Zi 0), (R 490), (Zi 237), (Zi 0), (R 497), (Zi 239), (Zi 0), (R 504), (Zi 246), (Zi 0), (R 511), (Zi 249), (Zi 0), (R 518), (Zi 251), (Zi 0), (R 525), (Zi 259), (Zi 0), (R 532), (Zi 261), (Zi 0), (R 539), (Zi 263), (Zi 0), (R 546), (Zi 268), (Zi 0), (R 553), (Zi 270), (Zi 0), (R 560), (Zi 277), (Zi 0), (R 567), (Zi 285), (Zi 0), (R 572), (Zi 290), (Zi 0), (R 579), (Zi 293), (Zi 0), (R 586), (Zi 301), (Zi 0), (R 607), (Zi 310), (Zi 0), (R 614), (Zi 319), (Zi 0), (R 622), (Zi 322), (Zi 0), (R 629), (Zi 324), (Zi 0), (R 634), (Zi 331), (Zi 0), (R 641), (Zi 335), (Zi 0), (R 648)]
noncomputable def J9o := Zt #[]
noncomputable def J9p := Zy "builtin_function_or_method" #[(U "type.__prepare__"), (Y "type")]
noncomputable def J9q (P : Params) := Zd #[E P "__module__" 955 (S "paperhold.inks" 946), E P "__qualname__" 957 (S "State" 956), E P "__firstlineno__" 959 (I 293 958), E P "__init__" 971 (R 594), E P "__static_attributes__" 977 (R 595)] 5
noncomputable def J9r := Zt #[]
noncomputable def J9s := Zf #[(Zi 295), (Zi 4), (R 593)]
noncomputable def J9t := Zk "State" "State" 950 951 952 293 0 0 0 0 584 false 181 585 .none .none .none 953 293 954
noncomputable def J9u : Obj := ⟨(Y "frame"), none, .plain, #[some (R 586), some (R 3), some (R 583), none, some (S "paperhold.inks" 946), none, some (R 0)]⟩
noncomputable def J9v := Zt #[]
noncomputable def J9w := Zf #[]
noncomputable def J9x := Zt #[(S "self" 963), (S "matrix" 964), (S "clips" 965), (S "fill" 966), (S "stroke" 967), (S "values" 968)]
noncomputable def J9y := Zt #[]
noncomputable def J9z := Zm [44, 0] "__init__" "State.__init__"
noncomputable def JA0 := Zk "__init__" "State.__init__" 960 961 962 295 6 0 0 3 588 true 181 589 (R 590) (R 591) (R 592) 969 295 970
noncomputable def JA1 := Zu [44, 0] "__init__" "State.__init__" (S "paperhold.inks" 946) 593
noncomputable def JA2 := Zt #[(S "clips" 972), (S "fill" 973), (S "matrix" 974), (S "stroke" 975), (S "values" 976)]
noncomputable def JA3 (P : Params) := Zd #[E P "__module__" 955 (S "paperhold.inks" 946), E P "__firstlineno__" 959 (I 293 958), E P "__init__" 971 (R 594), E P "__static_attributes__" 977 (R 595), E P "__dict__" 979 (R 598), E P "__weakref__" 981 (R 599), E P "__doc__" 982 .none] 4
noncomputable def JA4 : Obj := ⟨(Y "type"), none, (.cls (cd "State" [(Y "object")] [(R 597), (Y "object")] 596 "State" true [] [] false none false)), #[none, none, some (S "State" 948), some (S "State" 956), some (U "object.__new__"), some (.bool true)]⟩
noncomputable def JA5 := Zy "getset_descriptor" #[(S "__dict__" 978), (R 597), (U "function.__dict__"), (U "function.__dict__#set")]
noncomputable def JA6 := Zy "getset_descriptor" #[(S "__weakref__" 980), (R 597), (U "ExceptionGroup.__weakref__"), .none]
noncomputable def JA7 := Zy "super" #[(R 597), (R 597), (R 597)]
noncomputable def JA8 := Zy "builtin_function_or_method" #[(U "object.__init_subclass__"), (R 597)]
noncomputable def JA9 := Zt #[]
noncomputable def JAA := Zf #[]
noncomputable def JAB := Zt #[(S "space" 988), (S "zero" 989)]
noncomputable def JAC := Zt #[]
noncomputable def JAD := Zm [45] "first_colour" "first_colour"
noncomputable def JAE := Zk "first_colour" "first_colour" 985 986 987 301 1 0 0 3 602 true 181 603 (R 604) (R 605) (R 606) 990 301 991
noncomputable def JAF := Zu [45] "first_colour" "first_colour" (S "paperhold.inks" 946) 607
noncomputable def JAG := Zt #[]
noncomputable def JAH := Zf #[]
noncomputable def JAI := Zt #[(S "zero" 996), (S "found" 997), (S "word" 998)]
noncomputable def JAJ := Zt #[]
noncomputable def JAK := Zm [46] "first_values" "first_values"
noncomputable def JAL := Zk "first_values" "first_values" 993 994 995 310 0 0 0 3 609 true 181 610 (R 611) (R 612) (R 613) 999 310 1000
noncomputable def JAM := Zu [46] "first_values" "first_values" (S "paperhold.inks" 946) 614
noncomputable def JAN := Zt #[.none]
noncomputable def JAO := Zt #[]
noncomputable def JAP := Zf #[]
noncomputable def JAQ := Zt #[(S "matrix" 1005), (S "start" 1006)]
noncomputable def JAR := Zt #[]
noncomputable def JAS := Zm [47] "first_state" "first_state"
noncomputable def JAT := Zk "first_state" "first_state" 1002 1003 1004 319 1 0 0 3 617 true 181 618 (R 619) (R 620) (R 621) 1007 319 1008
noncomputable def JAU : Obj := ⟨(Y "function"), none, (.func (fd [47] "first_state" "first_state" 3 [] (R 616) .none .none (S "paperhold.inks" 946) none (R 622) .none 0)), #[]⟩
noncomputable def JAV := Zt #[]
noncomputable def JAW := Zf #[]
noncomputable def JAX := Zt #[(S "state" 1013)]
noncomputable def JAY := Zt #[]
noncomputable def JAZ := Zm [48] "copied_state" "copied_state"
noncomputable def JAa := Zk "copied_state" "copied_state" 1010 1011 1012 322 1 0 0 3 624 true 181 625 (R 626) (R 627) (R 628) 1014 322 1015
noncomputable def JAb := Zu [48] "copied_state" "copied_state" (S "paperhold.inks" 946) 629
noncomputable def JAc := Zt #[]
noncomputable def JAd := Zf #[]
noncomputable def JAe := Zm [49] "numbers_of" "numbers_of"
noncomputable def JAf := Zk "numbers_of" "numbers_of" 1017 1018 1019 324 2 0 0 3 631 true 181 632 .none .none (R 633) 1020 324 1021
noncomputable def JAg := Zu [49] "numbers_of" "numbers_of" (S "paperhold.inks" 946) 634
noncomputable def JAh := Zt #[]
noncomputable def JAi := Zf #[]
noncomputable def JAj := Zt #[(S "values" 1026)]
noncomputable def JAk := Zt #[]
noncomputable def JAl := Zm [50] "name_of" "name_of"
noncomputable def JAm := Zk "name_of" "name_of" 1023 1024 1025 331 1 0 0 3 636 true 181 637 (R 638) (R 639) (R 640) 1027 331 1028
noncomputable def JAn := Zu [50] "name_of" "name_of" (S "paperhold.inks" 946) 641
noncomputable def JAo := Zt #[]
noncomputable def JAp := Zf #[]
noncomputable def JAq := Zt #[(S "values" 1033), (S "count" 1034), (S "number" 1035)]
noncomputable def JAr := Zt #[]
noncomputable def JAs := Zm [51] "choice_of" "choice_of"
noncomputable def JAt := Zk "choice_of" "choice_of" 1030 1031 1032 335 2 0 0 3 643 true 181 644 (R 645) (R 646) (R 647) 1036 335 1037
noncomputable def JAu := Zu [51] "choice_of" "choice_of" (S "paperhold.inks" 946) 648
noncomputable def tr12 (P : Params) : BT := (n (J00 P) (n (J01 P) (n (J9m P) (n J07 (n J0I (n J0Y (n J19 (n J2B (n J4L (f J8c) z) (n J6U (f JAk) z)) (n J3F (n J5P (f J9g) z) (f J7Y))) (n J1f (n J2h (n J4r (f J9A) z) (f J72)) (n J3n (n J5y (f JAE) z) (f (J86 P))))) (n J0o (n J1P (n J2R (n J4b (f J8u) z) (f J6m)) (n J3V (n J5f (f J9y) z) (f J7q))) (n J1v (n J2z (n J57 (f J9Q) z) (f J7I)) (n J43 (n J6E (f JAU) z) (f J8M))))) (n J0Q (n J0g (n J1H (n J2J (n J4T (f J8k) z) (n J6c (f JAs) z)) (n J3N (n J5X (f (J9q P)) z) (f J7i))) (n J1n (n J2r (n J4z (f J9I) z) (f J7A)) (n J3v (n J66 (f JAM) z) (f J8E)))) (n J0z (n J1X (n J2Z (n J4j (f J92) z) (f J6u)) (n J3f (n J5q (f JA6) z) (f J7y))) (n J23 (n J37 (n J5H (f J9Y) z) (f J7Q)) (n J4B (n J6M (f JAc) z) (f J8U)))))) (n J0B (n J0M (n J0c (n J1D (n J2F (n J4P (f J8g) z) (n J6Y (f JAo) z)) (n J3J (n J5T (f J9k) z) (f J7c))) (n J1j (n J2n (n J4v (f J9E) z) (f J76)) (n J3r (n J62 (f JAI) z) (f J8A)))) (n J0v (n J1T (n J2V (n J4f (f J8y) z) (f J6q)) (n (J3b P) (n J5j (f JA2) z) (f J7u))) (n J1z (n J33 (n J5D (f J9U) z) (f J7M)) (n J47 (n J6I (f JAY) z) (f J8Q))))) (n J0U (n J0k (n J1L (n J2N (n J4X (f J8o) z) (f J6i)) (n (J3R P) (n J5b (f J9u) z) (f J7m))) (n J1r (n J2v (n J53 (f J9M) z) (f J7E)) (n J3z (n J6A (f JAQ) z) (f J8I)))) (n J13 (n J1b (n J2d (n J4n (f J96) z) (f J6y)) (n J3j (n J5u (f JAA) z) (f J82))) (n J27 (n J3B (n J5L (f J9c) z) (f J7U)) (n J4F (n J6Q (f JAg) z) (f J8Y))))))) (n J05 (n J09 (n J0K (n J0a (n J1B (n J2D (n J4N (f J8e) z) (n J6W (f JAm) z)) (n J3H (n J5R (f J9i) z) (f J7a))) (n J1h (n J2l (n J4t (f J9C) z) (f J74)) (n (J3p P) (n J60 (f JAG) z) (f J88)))) (n J0q (n J1R (n J2T (n J4d (f J8w) z) (f J6o)) (n J3Z (n J5o (f JA0) z) (f J7s))) (n J1x (n J31 (n J59 (f J9S) z) (f J7K)) (n J45 (n J6G (f JAW) z) (f J8O))))) (n J0S (n J0i (n J1J (n J2L (n J4V (f J8m) z) (n J6e (f JAu) z)) (n J3P (n J5Z (f J9s) z) (f J7k))) (n J1p (n J2t (n J51 (f J9K) z) (f J7C)) (n (J3x P) (n J68 (f JAO) z) (f J8G)))) (n J11 (n J1Z (n J2b (n J4l (f J94) z) (f J6w)) (n J3h (n J5s (f JA8) z) (f J80))) (n J25 (n J39 (n J5J (f J9a) z) (f J7S)) (n J4D (n J6O (f JAe) z) (f J8W)))))) (n J0D (n J0O (n J0e (n J1F (n J2H (n J4R (f J8i) z) (n J6a (f JAq) z)) (n J3L (n J5V (f J9o) z) (f J7e))) (n J1l (n J2p (n J4x (f J9G) z) (f J78)) (n J3t (n J64 (f JAK) z) (f J8C)))) (n J0x (n J1V (n J2X (n J4h (f J90) z) (f J6s)) (n J3d (n J5l (f JA4) z) (f J7w))) (n J21 (n J35 (n J5F (f J9W) z) (f J7O)) (n J49 (n J6K (f JAa) z) (f J8S))))) (n J0W (n (J0m P) (n J1N (n J2P (n J4Z (f J8q) z) (f J6k)) (n J3T (n J5d (f J9w) z) (f J7o))) (n J1t (n J2x (n J55 (f J9O) z) (f J7G)) (n J41 (n J6C (f JAS) z) (f J8K)))) (n J15 (n J1d (n J2f (n J4p (f J98) z) (f J70)) (n J3l (n J5w (f JAC) z) (f J84))) (n J29 (n J3D (n J5N (f J9e) z) (f J7W)) (n J4J (n J6S (f JAi) z) (f J8a)))))))) (n (J0F P) (n J04 (n J08 (n J0J (n J0Z (n (J1A P) (n J2C (n J4M (f J8d) z) (n J6V (f JAl) z)) (n J3G (n J5Q (f J9h) z) (f J7Z))) (n J1g (n J2k (n J4s (f J9B) z) (f J73)) (n J3o (n J5z (f JAF) z) (f J87)))) (n J0p (n J1Q (n J2S (n J4c (f J8v) z) (f J6n)) (n J3W (n (J5g P) (f J9z) z) (f (J7r P)))) (n J1w (n J30 (n J58 (f J9R) z) (f J7J)) (n J44 (n J6F (f JAV) z) (f J8N))))) (n (J0R P) (n J0h (n J1I (n J2K (n J4U (f J8l) z) (n J6d (f JAt) z)) (n J3O (n J5Y (f J9r) z) (f J7j))) (n J1o (n J2s (n J50 (f J9J) z) (f J7B)) (n J3w (n J67 (f JAN) z) (f J8F)))) (n J10 (n J1Y (n J2a (n J4k (f J93) z) (f J6v)) (n J3g (n (J5r P) (f JA7) z) (f J7z))) (n J24 (n J38 (n J5I (f J9Z) z) (f J7R)) (n J4C (n J6N (f JAd) z) (f J8V)))))) (n J9n (n J0N (n J0d (n J1E (n J2G (n J4Q (f J8h) z) (n J6Z (f JAp) z)) (n J3K (n J5U (f J9l) z) (f J7d))) (n J1k (n J2o (n J4w (f J9F) z) (f J77)) (n J3s (n J63 (f JAJ) z) (f J8B)))) (n (J0w P) (n J1U (n J2W (n J4g (f J8z) z) (f J6r)) (n J3c (n J5k (f (JA3 P)) z) (f J7v))) (n J20 (n J34 (n (J5E P) (f J9V) z) (f J7N)) (n J48 (n J6J (f JAZ) z) (f J8R))))) (n J0V (n J0l (n J1M (n J2O (n J4Y (f J8p) z) (f (J6j P))) (n J3S (n J5c (f J9v) z) (f J7n))) (n J1s (n J2w (n J54 (f J9N) z) (f J7F)) (n J40 (n J6B (f JAR) z) (f J8J)))) (n J14 (n J1c (n J2e (n J4o (f J97) z) (f J6z)) (n J3k (n J5v (f JAB) z) (f J83))) (n J28 (n J3C (n J5M (f J9d) z) (f J7V)) (n J4I (n J6R (f JAh) z) (f J8Z))))))) (n J06 (n J0A (n J0L (n J0b (n J1C (n J2E (n J4O (f J8f) z) (n J6X (f JAn) z)) (n J3I (n J5S (f J9j) z) (f J7b))) (n J1i (n J2m (n J4u (f J9D) z) (f J75)) (n J3q (n J61 (f JAH) z) (f J89)))) (n J0u (n J1S (n J2U (n (J4e P) (f J8x) z) (f J6p)) (n J3a (n J5i (f JA1) z) (f J7t))) (n J1y (n J32 (n J5C (f J9T) z) (f J7L)) (n J46 (n J6H (f JAX) z) (f J8P))))) (n J0T (n J0j (n J1K (n J2M (n J4W (f J8n) z) (f J6h)) (n J3Q (n J5a (f J9t) z) (f J7l))) (n J1q (n J2u (n J52 (f J9L) z) (f J7D)) (n J3y (n J69 (f JAP) z) (f J8H)))) (n (J12 P) (n J1a (n (J2c P) (n J4m (f J95) z) (f J6x)) (n J3i (n J5t (f JA9) z) (f J81))) (n J26 (n J3A (n J5K (f J9b) z) (f (J7T P))) (n J4E (n J6P (f JAf) z) (f J8X)))))) (n J0E (n J0P (n J0f (n J1G (n J2I (n J4S (f J8j) z) (n (J6b P) (f JAr) z)) (n J3M (n J5W (f J9p) z) (f J7f))) (n J1m (n J2q (n J4y (f J9H) z) (f J79)) (n J3u (n J65 (f JAL) z) (f J8D)))) (n J0y (n J1W (n J2Y (n J4i (f J91) z) (f J6t)) (n J3e (n J5p (f JA5) z) (f J7x))) (n J22 (n J36 (n J5G (f J9X) z) (f J7P)) (n (J4A P) (n J6L (f JAb) z) (f J8T))))) (n J0X (n J0t (n J1O (n J2Q (n J4a (f J8r) z) (f J6l)) (n J3U (n J5e (f J9x) z) (f J7p))) (n J1u (n J2y (n J56 (f J9P) z) (f J7H)) (n J42 (n J6D (f JAT) z) (f J8L)))) (n J18 (n J1e (n J2g (n J4q (f J99) z) (f J71)) (n J3m (n J5x (f JAD) z) (f J85))) (n J2A (n (J3E P) (n J5O (f J9f) z) (f J7X)) (n (J4K P) (n J6T (f JAj) z) (f J8b)))))))))
noncomputable def S12 (w : World) (os : OsState) : SharedT := ⟨tr12 w.params, 650, {}, #[], {}, 1039, os⟩
noncomputable def JAv (P : Params) := Zd #[Q0t P, Q00 P, Q01 P, Q02 P, Q03 P, Q04 P, Q05 P, Q06 P, Q07 P, Q08 P, Q09 P, Q0A P, Q0B P, Q0D P, Q0E P, Q0F P, Q0G P, Q0H P, Q0I P, Q0J P, Q0K P, Q0L P, Q0M P, Q0N P, Q0O P, Q0P P, Q0Q P, Q0R P, Q0S P, Q0T P, Q0U P, Q0V P, Q0W P, Q0X P, Q0Y P, Q0Z P, Q0a P, Q0b P, Q0c P, Q0d P, Q0e P, Q0f P, Q0g P, Q0h P, Q0i P, Q0j P, Q0k P, Q0l P, Q0m P, Q0n P, Q0o P, Q0p P, Q0q P, Q0r P, Q0s P, Q0u P, Q0v P, Q0w P, Q0x P, Q0y P, Q0z P, Q10 P, Q11 P, Q12 P, Q13 P, Q14 P, Q15 P, Q16 P, Q17 P, Q18 P, Q19 P, Q1A P, Q1B P, Q1C P] 74
noncomputable def JAw := Zf #[(Zi 1), (Zi 0), (R 20), (Zi 5), (Zi 0), (R 27), (Zi 14), (Zi 0), (R 55), (Zi 17), (Zi 0), (R 67), (Zi 66), (Zi 0), (R 165), (Zi 68), (Zi 0), (R 172), (Zi 72), (Zi 0), (R 179), (Zi 78), (Zi 0), (R 186), (Zi 85), (Zi 0), (R 193), (Zi 89), (Zi 0), (R 214), (Zi 94), (Zi 0), (R 236), (Zi 99), (Zi 0), (R 257), (Zi 107), (Zi 0), (R 285), (Zi 129), (Zi 0), (R 292), (Zi 131), (Zi 0), (R 299), (Zi 145), (Zi 0), (R 304), (Zi 155), (Zi 0), (R 311), (Zi 174), (Zi 0), (R 347), (Zi 195), (Zi 0), (R 399), (Zi 226), (Zi 0), (R 453), (Zi 228), (Zi 0), (R 460), (Zi 231), (Zi 0), (R 467), (Zi 235), (Zi 0), (R 490), (Zi 237), (Zi 0), (R 497), (Zi 239), (Zi 0), (R 504), (Zi 246), (Zi 0), (R 511), (Zi 249), (Zi 0), (R 518), (Zi 251), (Zi 0), (R 525), (Zi 259), (Zi 0), (R 532), (Zi 261), (Zi 0), (R 539), (Zi 263), (Zi 0), (R 546), (Zi 268), (Zi 0), (R 553), (Zi 270), (Zi 0), (R 560), (Zi 277), (Zi 0), (R 567), (Zi 285), (Zi 0), (R 572), (Zi 290), (Zi 0), (R 579), (Zi 293), (Zi 0), (R 586), (Zi 301), (Zi 0), (R 607), (Zi 310), (Zi 0), (R 614), (Zi 319), (Zi 0), (R 622), (Zi 322), (Zi 0), (R 629), (Zi 324), (Zi 0), (R 634), (Zi 331), (Zi 0), (R 641), (Zi 335), (Zi 0), (R 648), (Zi 340), (Zi 0), (R 655), (Zi 350), (Zi 0), (R 662), (Zi 353), (Zi 0), (R 669), (Zi 360), (Zi 0), (R 676), (Zi 375), (Zi 0), (R 681), (Zi 383), (Zi 0), (R 688), (Zi 397), (Zi 0), (R 693), (Zi 411), (Zi 0), (R 700)]
noncomputable def JAx := Zt #[]
noncomputable def JAy := Zf #[]
noncomputable def JAz := Zt #[(S "values" 1042), (S "count" 1043), (S "found" 1044), (S "number" 1045)]
noncomputable def JB0 := Zt #[]
noncomputable def JB1 := Zm [52] "colour_parts" "colour_parts"
noncomputable def JB2 := Zk "colour_parts" "colour_parts" 1039 1040 1041 340 2 0 0 3 650 true 181 651 (R 652) (R 653) (R 654) 1046 340 1047
noncomputable def JB3 := Zu [52] "colour_parts" "colour_parts" (S "paperhold.inks" 946) 655
noncomputable def JB4 := Zt #[]
noncomputable def JB5 := Zf #[]
noncomputable def JB6 := Zt #[(S "space" 1052), (S "counts" 1053)]
noncomputable def JB7 := Zt #[]
noncomputable def JB8 := Zm [53] "device_count" "device_count"
noncomputable def JB9 := Zk "device_count" "device_count" 1049 1050 1051 350 1 0 0 3 657 true 181 658 (R 659) (R 660) (R 661) 1054 350 1055
noncomputable def JBA := Zu [53] "device_count" "device_count" (S "paperhold.inks" 946) 662
noncomputable def JBB := Zt #[]
noncomputable def JBC := Zf #[]
noncomputable def JBD := Zt #[(S "space" 1060), (S "values" 1061), (S "count" 1062)]
noncomputable def JBE := Zt #[]
noncomputable def JBF := Zm [54] "own_colour" "own_colour"
noncomputable def JBG := Zk "own_colour" "own_colour" 1057 1058 1059 353 2 0 0 3 664 true 181 665 (R 666) (R 667) (R 668) 1063 353 1064
noncomputable def JBH := Zu [54] "own_colour" "own_colour" (S "paperhold.inks" 946) 669
noncomputable def JBI := Zt #[]
noncomputable def JBJ := Zf #[]
noncomputable def JBK := Zt #[(S "state" 1069), (S "word" 1070), (S "values" 1071), (S "is_fill" 1072), (S "plain" 1073), (S "before" 1074), (S "space" 1075), (S "colour" 1076)]
noncomputable def JBL := Zt #[]
noncomputable def JBM := Zm [55] "set_colour" "set_colour"
noncomputable def JBN := Zk "set_colour" "set_colour" 1066 1067 1068 360 3 0 0 3 671 true 181 672 (R 673) (R 674) (R 675) 1077 360 1078
noncomputable def JBO := Zu [55] "set_colour" "set_colour" (S "paperhold.inks" 946) 676
noncomputable def JBP := Zt #[]
noncomputable def JBQ := Zf #[]
noncomputable def JBR := Zm [56] "set_dash" "set_dash"
noncomputable def JBS := Zk "set_dash" "set_dash" 1080 1081 1082 375 3 0 0 3 678 true 181 679 .none .none (R 680) 1083 375 1084
noncomputable def JBT := Zu [56] "set_dash" "set_dash" (S "paperhold.inks" 946) 681
noncomputable def JBU := Zt #[]
noncomputable def JBV := Zf #[]
noncomputable def JBW := Zt #[(S "state" 1089), (S "word" 1090), (S "values" 1091), (S "number" 1092)]
noncomputable def JBX := Zt #[]
noncomputable def JBY := Zm [57] "set_line" "set_line"
noncomputable def JBZ := Zk "set_line" "set_line" 1086 1087 1088 383 3 0 0 3 683 true 181 684 (R 685) (R 686) (R 687) 1093 383 1094
noncomputable def JBa := Zu [57] "set_line" "set_line" (S "paperhold.inks" 946) 688
noncomputable def JBb := Zt #[]
noncomputable def JBc := Zf #[]
noncomputable def JBd := Zm [58] "set_named" "set_named"
noncomputable def JBe := Zk "set_named" "set_named" 1096 1097 1098 397 3 0 0 3 690 true 181 691 .none .none (R 692) 1099 397 1100
noncomputable def JBf := Zu [58] "set_named" "set_named" (S "paperhold.inks" 946) 693
noncomputable def JBg := Zt #[]
noncomputable def JBh := Zf #[]
noncomputable def JBi := Zt #[(S "state" 1105), (S "word" 1106), (S "values" 1107), (S "plain" 1108), (S "size" 1109)]
noncomputable def JBj := Zt #[]
noncomputable def JBk := Zm [59] "set_text" "set_text"
noncomputable def JBl := Zk "set_text" "set_text" 1102 1103 1104 411 3 0 0 3 695 true 181 696 (R 697) (R 698) (R 699) 1110 411 1111
noncomputable def JBm := Zu [59] "set_text" "set_text" (S "paperhold.inks" 946) 700
noncomputable def JBn := Zt #[(S "q" 1117), (S "Q" 1118), (S "cm" 1119)]
noncomputable def JBo := Zt #[(S "w" 1121), (S "J" 1122), (S "j" 1123), (S "M" 1124), (S "d" 1125), (S "ri" 1126), (S "i" 1127), (S "gs" 1128)]
noncomputable def JBp := Zt #[(S "m" 1130), (S "l" 1131), (S "c" 1132), (S "v" 1133), (S "y" 1134), (S "h" 1135), (S "re" 1136)]
noncomputable def JBq := Zt #[(S "W" 1138), (S "W*" 1139)]
noncomputable def JBr := Zt #[(S "S" 1141), (S "s" 1142), (S "f" 1143), (S "F" 1144), (S "f*" 1145), (S "B" 1146), (S "B*" 1147), (S "b" 1148), (S "b*" 1149), (S "n" 1150)]
noncomputable def JBs := Zt #[(S "g" 1152), (S "G" 1153), (S "rg" 1154), (S "RG" 1155), (S "k" 1156), (S "K" 1157), (S "cs" 1158), (S "CS" 1159), (S "sc" 1160), (S "SC" 1161), (S "scn" 1162), (S "SCN" 1163)]
noncomputable def JBt := Zt #[(S "Tc" 1165), (S "Tw" 1166), (S "Tz" 1167), (S "TL" 1168), (S "Ts" 1169), (S "Tr" 1170), (S "Tf" 1171)]
noncomputable def JBu := Zt #[(S "Td" 1173), (S "TD" 1174), (S "Tm" 1175), (S "T*" 1176)]
noncomputable def JBv := Zt #[(S "Tj" 1178), (S "TJ" 1179), (S "'" 1180), (S "\"" 1181)]
noncomputable def JBw := Zt #[(S "MP" 1183), (S "DP" 1184), (S "BMC" 1185), (S "BDC" 1186), (S "EMC" 1187)]
noncomputable def tr13 (P : Params) : BT := (n (J00 P) (n (J01 P) (n (JAv P) (n J07 (n J0I (n J0Y (n J19 (n J2B (n J4L (f J8c) z) (n J6U (f JAk) z)) (n J3F (n J5P (f J9g) z) (n J7Y (f JBo) z))) (n J1f (n J2h (n J4r (f J9A) z) (n J72 (f JBI) z)) (n J3n (n J5y (f JAE) z) (f (J86 P))))) (n J0o (n J1P (n J2R (n J4b (f J8u) z) (n J6m (f JB2) z)) (n J3V (n J5f (f J9y) z) (f J7q))) (n J1v (n J2z (n J57 (f J9Q) z) (n J7I (f JBY) z)) (n J43 (n J6E (f JAU) z) (f J8M))))) (n J0Q (n J0g (n J1H (n J2J (n J4T (f J8k) z) (n J6c (f JAs) z)) (n J3N (n J5X (f (J9q P)) z) (n J7i (f JBw) z))) (n J1n (n J2r (n J4z (f J9I) z) (n J7A (f JBQ) z)) (n J3v (n J66 (f JAM) z) (f J8E)))) (n J0z (n J1X (n J2Z (n J4j (f J92) z) (n J6u (f JBA) z)) (n J3f (n J5q (f JA6) z) (f J7y))) (n J23 (n J37 (n J5H (f J9Y) z) (n J7Q (f JBg) z)) (n J4B (n J6M (f JAc) z) (f J8U)))))) (n J0B (n J0M (n J0c (n J1D (n J2F (n J4P (f J8g) z) (n J6Y (f JAo) z)) (n J3J (n J5T (f J9k) z) (n J7c (f JBs) z))) (n J1j (n J2n (n J4v (f J9E) z) (n J76 (f JBM) z)) (n J3r (n J62 (f JAI) z) (f J8A)))) (n J0v (n J1T (n J2V (n J4f (f J8y) z) (n J6q (f JB6) z)) (n (J3b P) (n J5j (f JA2) z) (f J7u))) (n J1z (n J33 (n J5D (f J9U) z) (n J7M (f JBc) z)) (n J47 (n J6I (f JAY) z) (f J8Q))))) (n J0U (n J0k (n J1L (n J2N (n J4X (f J8o) z) (n J6i (f JAy) z)) (n (J3R P) (n J5b (f J9u) z) (f J7m))) (n J1r (n J2v (n J53 (f J9M) z) (n J7E (f JBU) z)) (n J3z (n J6A (f JAQ) z) (f J8I)))) (n J13 (n J1b (n J2d (n J4n (f J96) z) (n J6y (f JBE) z)) (n J3j (n J5u (f JAA) z) (f J82))) (n J27 (n J3B (n J5L (f J9c) z) (n J7U (f JBk) z)) (n J4F (n J6Q (f JAg) z) (f J8Y))))))) (n J05 (n J09 (n J0K (n J0a (n J1B (n J2D (n J4N (f J8e) z) (n J6W (f JAm) z)) (n J3H (n J5R (f J9i) z) (n J7a (f JBq) z))) (n J1h (n J2l (n J4t (f J9C) z) (n J74 (f JBK) z)) (n (J3p P) (n J60 (f JAG) z) (f J88)))) (n J0q (n J1R (n J2T (n J4d (f J8w) z) (n J6o (f JB4) z)) (n J3Z (n J5o (f JA0) z) (f J7s))) (n J1x (n J31 (n J59 (f J9S) z) (n J7K (f JBa) z)) (n J45 (n J6G (f JAW) z) (f J8O))))) (n J0S (n J0i (n J1J (n J2L (n J4V (f J8m) z) (n J6e (f JAu) z)) (n J3P (n J5Z (f J9s) z) (f J7k))) (n J1p (n J2t (n J51 (f J9K) z) (n J7C (f JBS) z)) (n (J3x P) (n J68 (f JAO) z) (f J8G)))) (n J11 (n J1Z (n J2b (n J4l (f J94) z) (n J6w (f JBC) z)) (n J3h (n J5s (f JA8) z) (f J80))) (n J25 (n J39 (n J5J (f J9a) z) (n J7S (f JBi) z)) (n J4D (n J6O (f JAe) z) (f J8W)))))) (n J0D (n J0O (n J0e (n J1F (n J2H (n J4R (f J8i) z) (n J6a (f JAq) z)) (n J3L (n J5V (f J9o) z) (n J7e (f JBu) z))) (n J1l (n J2p (n J4x (f J9G) z) (n J78 (f JBO) z)) (n J3t (n J64 (f JAK) z) (f J8C)))) (n J0x (n J1V (n J2X (n J4h (f J90) z) (n J6s (f JB8) z)) (n J3d (n J5l (f JA4) z) (f J7w))) (n J21 (n J35 (n J5F (f J9W) z) (n J7O (f JBe) z)) (n J49 (n J6K (f JAa) z) (f J8S))))) (n J0W (n (J0m P) (n J1N (n J2P (n J4Z (f J8q) z) (n J6k (f JB0) z)) (n J3T (n J5d (f J9w) z) (f J7o))) (n J1t (n J2x (n J55 (f J9O) z) (n J7G (f JBW) z)) (n J41 (n J6C (f JAS) z) (f J8K)))) (n J15 (n J1d (n J2f (n J4p (f J98) z) (n J70 (f JBG) z)) (n J3l (n J5w (f JAC) z) (f J84))) (n J29 (n J3D (n J5N (f J9e) z) (n J7W (f JBm) z)) (n J4J (n J6S (f JAi) z) (f J8a)))))))) (n (J0F P) (n J04 (n J08 (n J0J (n J0Z (n (J1A P) (n J2C (n J4M (f J8d) z) (n J6V (f JAl) z)) (n J3G (n J5Q (f J9h) z) (n J7Z (f JBp) z))) (n J1g (n J2k (n J4s (f J9B) z) (n J73 (f JBJ) z)) (n J3o (n J5z (f JAF) z) (f J87)))) (n J0p (n J1Q (n J2S (n J4c (f J8v) z) (n J6n (f JB3) z)) (n J3W (n (J5g P) (f J9z) z) (f (J7r P)))) (n J1w (n J30 (n J58 (f J9R) z) (n J7J (f JBZ) z)) (n J44 (n J6F (f JAV) z) (f J8N))))) (n (J0R P) (n J0h (n J1I (n J2K (n J4U (f J8l) z) (n J6d (f JAt) z)) (n J3O (n J5Y (f J9r) z) (f J7j))) (n J1o (n J2s (n J50 (f J9J) z) (n J7B (f JBR) z)) (n J3w (n J67 (f JAN) z) (f J8F)))) (n J10 (n J1Y (n J2a (n J4k (f J93) z) (n J6v (f JBB) z)) (n J3g (n (J5r P) (f JA7) z) (f J7z))) (n J24 (n J38 (n J5I (f J9Z) z) (n J7R (f JBh) z)) (n J4C (n J6N (f JAd) z) (f J8V)))))) (n JAw (n J0N (n J0d (n J1E (n J2G (n J4Q (f J8h) z) (n J6Z (f JAp) z)) (n J3K (n J5U (f J9l) z) (n J7d (f JBt) z))) (n J1k (n J2o (n J4w (f J9F) z) (n J77 (f JBN) z)) (n J3s (n J63 (f JAJ) z) (f J8B)))) (n (J0w P) (n J1U (n J2W (n J4g (f J8z) z) (n J6r (f JB7) z)) (n J3c (n J5k (f (JA3 P)) z) (f J7v))) (n J20 (n J34 (n (J5E P) (f J9V) z) (n J7N (f JBd) z)) (n J48 (n J6J (f JAZ) z) (f J8R))))) (n J0V (n J0l (n J1M (n J2O (n J4Y (f J8p) z) (n (J6j P) (f JAz) z)) (n J3S (n J5c (f J9v) z) (f J7n))) (n J1s (n J2w (n J54 (f J9N) z) (n J7F (f JBV) z)) (n J40 (n J6B (f JAR) z) (f J8J)))) (n J14 (n J1c (n J2e (n J4o (f J97) z) (n J6z (f JBF) z)) (n J3k (n J5v (f JAB) z) (f J83))) (n J28 (n J3C (n J5M (f J9d) z) (n J7V (f JBl) z)) (n J4I (n J6R (f JAh) z) (f J8Z))))))) (n J06 (n J0A (n J0L (n J0b (n J1C (n J2E (n J4O (f J8f) z) (n J6X (f JAn) z)) (n J3I (n J5S (f J9j) z) (n J7b (f JBr) z))) (n J1i (n J2m (n J4u (f J9D) z) (n J75 (f JBL) z)) (n J3q (n J61 (f JAH) z) (f J89)))) (n J0u (n J1S (n J2U (n (J4e P) (f J8x) z) (n J6p (f JB5) z)) (n J3a (n J5i (f JA1) z) (f J7t))) (n J1y (n J32 (n J5C (f J9T) z) (n J7L (f JBb) z)) (n J46 (n J6H (f JAX) z) (f J8P))))) (n J0T (n J0j (n J1K (n J2M (n J4W (f J8n) z) (n J6h (f JAx) z)) (n J3Q (n J5a (f J9t) z) (f J7l))) (n J1q (n J2u (n J52 (f J9L) z) (n J7D (f JBT) z)) (n J3y (n J69 (f JAP) z) (f J8H)))) (n (J12 P) (n J1a (n (J2c P) (n J4m (f J95) z) (n J6x (f JBD) z)) (n J3i (n J5t (f JA9) z) (f J81))) (n J26 (n J3A (n J5K (f J9b) z) (n (J7T P) (f JBj) z)) (n J4E (n J6P (f JAf) z) (f J8X)))))) (n J0E (n J0P (n J0f (n J1G (n J2I (n J4S (f J8j) z) (n (J6b P) (f JAr) z)) (n J3M (n J5W (f J9p) z) (n J7f (f JBv) z))) (n J1m (n J2q (n J4y (f J9H) z) (n J79 (f JBP) z)) (n J3u (n J65 (f JAL) z) (f J8D)))) (n J0y (n J1W (n J2Y (n J4i (f J91) z) (n J6t (f JB9) z)) (n J3e (n J5p (f JA5) z) (f J7x))) (n J22 (n J36 (n J5G (f J9X) z) (n J7P (f JBf) z)) (n (J4A P) (n J6L (f JAb) z) (f J8T))))) (n J0X (n J0t (n J1O (n J2Q (n J4a (f J8r) z) (n J6l (f JB1) z)) (n J3U (n J5e (f J9x) z) (f J7p))) (n J1u (n J2y (n J56 (f J9P) z) (n J7H (f JBX) z)) (n J42 (n J6D (f JAT) z) (f J8L)))) (n J18 (n J1e (n J2g (n J4q (f J99) z) (n J71 (f JBH) z)) (n J3m (n J5x (f JAD) z) (f J85))) (n J2A (n (J3E P) (n J5O (f J9f) z) (n J7X (f JBn) z)) (n (J4K P) (n J6T (f JAj) z) (f J8b)))))))))
noncomputable def S13 (w : World) (os : OsState) : SharedT := ⟨tr13 w.params, 712, {}, #[], {}, 1189, os⟩
noncomputable def JBx (P : Params) := Zd #[Q0t P, Q00 P, Q01 P, Q02 P, Q03 P, Q04 P, Q05 P, Q06 P, Q07 P, Q08 P, Q09 P, Q0A P, Q0B P, Q0D P, Q0E P, Q0F P, Q0G P, Q0H P, Q0I P, Q0J P, Q0K P, Q0L P, Q0M P, Q0N P, Q0O P, Q0P P, Q0Q P, Q0R P, Q0S P, Q0T P, Q0U P, Q0V P, Q0W P, Q0X P, Q0Y P, Q0Z P, Q0a P, Q0b P, Q0c P, Q0d P, Q0e P, Q0f P, Q0g P, Q0h P, Q0i P, Q0j P, Q0k P, Q0l P, Q0m P, Q0n P, Q0o P, Q0p P, Q0q P, Q0r P, Q0s P, Q0u P, Q0v P, Q0w P, Q0x P, Q0y P, Q0z P, Q10 P, Q11 P, Q12 P, Q13 P, Q14 P, Q15 P, Q16 P, Q17 P, Q18 P, Q19 P, Q1A P, Q1B P, Q1C P, Q1D P, Q1E P, Q1F P, Q1G P, Q1H P] 79
noncomputable def JBy := Zf #[(Zi 1), (Zi 0), (R 20), (Zi 5), (Zi 0), (R 27), (Zi 14), (Zi 0), (R 55), (Zi 17), (Zi 0), (R 67), (Zi 66), (Zi 0), (R 165), (Zi 68), (Zi 0), (R 172), (Zi 72), (Zi 0), (R 179), (Zi 78), (Zi 0), (R 186), (Zi 85), (Zi 0), (R 193), (Zi 89), (Zi 0), (R 214), (Zi 94), (Zi 0), (R 236), (Zi 99), (Zi 0), (R 257), (Zi 107), (Zi 0), (R 285), (Zi 129), (Zi 0), (R 292), (Zi 131), (Zi 0), (R 299), (Zi 145), (Zi 0), (R 304), (Zi 155), (Zi 0), (R 311), (Zi 174), (Zi 0), (R 347), (Zi 195), (Zi 0), (R 399), (Zi 226), (Zi 0), (R 453), (Zi 228), (Zi 0), (R 460), (Zi 231), (Zi 0), (R 467), (Zi 235), (Zi 0), (R 490), (Zi 237), (Zi 0), (R 497), (Zi 239), (Zi 0), (R 504), (Zi 246), (Zi 0), (R 511), (Zi 249), (Zi 0), (R 518), (Zi 251), (Zi 0), (R 525), (Zi 259), (Zi 0), (R 532), (Zi 261), (Zi 0), (R 539), (Zi 263), (Zi 0), (R 546), (Zi 268), (Zi 0), (R 553), (Zi 270), (Zi 0), (R 560), (Zi 277), (Zi 0), (R 567), (Zi 285), (Zi 0), (R 572), (Zi 290), (Zi 0), (R 579), (Zi 293), (Zi 0), (R 586), (Zi 301), (Zi 0), (R 607), (Zi 310), (Zi 0), (R 614), (Zi 319), (Zi 0), (R 622), (Zi 322), (Zi 0), (R 629), (Zi 324), (Zi 0), (R 634), (Zi 331), (Zi 0), (R 641), (Zi 335), (Zi 0), (R 648), (Zi 340), (Zi 0), (R 655), (Zi 350), (Zi 0), (R 662), (Zi 353), (Zi 0), (R 669), (Zi 360), (Zi 0), (R 676), (Zi 375), (Zi 0), (R 681), (Zi 383), (Zi 0), (R 688), (Zi 397), (Zi 0), (R 693), (Zi 411), (Zi 0), (R 700), (Zi 438), (Zi 0), (R 720), (Zi 457), (Zi 0), (R 749)]
noncomputable def JBz (P : Params) := Zd #[E P "f" 1189 (S "nonzero" 1190), E P "F" 1191 (S "nonzero" 1192), E P "B" 1193 (S "nonzero" 1194), E P "b" 1195 (S "nonzero" 1196), E P "f*" 1197 (S "evenodd" 1198), E P "B*" 1199 (S "evenodd" 1200), E P "b*" 1201 (S "evenodd" 1202)] 7
noncomputable def JC0 := Zt #[(S "S" 1211), (S "s" 1212), (S "B" 1213), (S "B*" 1214), (S "b" 1215), (S "b*" 1216)]
noncomputable def JC1 := Zt #[(S "s" 1218), (S "b" 1219), (S "b*" 1220)]
noncomputable def JC2 := Zt #[]
noncomputable def JC3 := Zy "builtin_function_or_method" #[(U "type.__prepare__"), (Y "type")]
noncomputable def JC4 (P : Params) := Zd #[E P "__module__" 1229 (S "paperhold.painter" 1113), E P "__qualname__" 1231 (S "Painter" 1230), E P "__firstlineno__" 1233 (I 438 1232), E P "__init__" 1244 (R 729), E P "paint" 1252 (R 736), E P "__static_attributes__" 1266 (R 737)] 6
noncomputable def JC5 := Zt #[]
noncomputable def JC6 := Zf #[(Zi 440), (Zi 4), (R 728), (Zi 455), (Zi 4), (R 735)]
noncomputable def JC7 := Zk "Painter" "Painter" 1224 1225 1226 438 0 0 0 0 718 false 181 719 .none .none .none 1227 438 1228
noncomputable def JC8 : Obj := ⟨(Y "frame"), none, .plain, #[some (R 720), some (R 3), some (R 717), none, some (S "paperhold.painter" 1113), none, some (R 0)]⟩
noncomputable def JC9 := Zt #[.none, .none]
noncomputable def JCA := Zt #[]
noncomputable def JCB := Zf #[]
noncomputable def JCC := Zt #[(S "self" 1237), (S "shelf" 1238), (S "resources" 1239), (S "opener" 1240), (S "matrix" 1241)]
noncomputable def JCD := Zt #[]
noncomputable def JCE := Zm [75, 0] "__init__" "Painter.__init__"
noncomputable def JCF := Zk "__init__" "Painter.__init__" 1234 1235 1236 440 5 0 0 3 723 true 181 724 (R 725) (R 726) (R 727) 1242 440 1243
noncomputable def JCG : Obj := ⟨(Y "function"), none, (.func (fd [75, 0] "__init__" "Painter.__init__" 3 [] (R 722) .none .none (S "paperhold.painter" 1113) none (R 728) .none 0)), #[]⟩
noncomputable def JCH := Zt #[]
noncomputable def JCI := Zf #[]
noncomputable def JCJ := Zt #[(S "self" 1248), (S "operations" 1249)]
noncomputable def JCK := Zt #[]
noncomputable def JCL := Zm [75, 1] "paint" "Painter.paint"
noncomputable def JCM := Zk "paint" "Painter.paint" 1245 1246 1247 455 2 0 0 3 730 true 181 731 (R 732) (R 733) (R 734) 1250 455 1251
noncomputable def JCN := Zu [75, 1] "paint" "Painter.paint" (S "paperhold.painter" 1113) 735
noncomputable def JCO := Zt #[(S "clips" 1253), (S "floor" 1254), (S "marks" 1255), (S "open_forms" 1256), (S "opener" 1257), (S "path" 1258), (S "pile" 1259), (S "resources" 1260), (S "rule" 1261), (S "shelf" 1262), (S "skips" 1263), (S "state" 1264), (S "text" 1265)]
noncomputable def JCP (P : Params) := Zd #[E P "__module__" 1229 (S "paperhold.painter" 1113), E P "__firstlineno__" 1233 (I 438 1232), E P "__init__" 1244 (R 729), E P "paint" 1252 (R 736), E P "__static_attributes__" 1266 (R 737), E P "__dict__" 1268 (R 740), E P "__weakref__" 1270 (R 741), E P "__doc__" 1271 .none] 4
noncomputable def JCQ : Obj := ⟨(Y "type"), none, (.cls (cd "Painter" [(Y "object")] [(R 739), (Y "object")] 738 "Painter" true [] [] false none false)), #[none, none, some (S "Painter" 1222), some (S "Painter" 1230), some (U "object.__new__"), some (.bool true)]⟩
noncomputable def JCR := Zy "getset_descriptor" #[(S "__dict__" 1267), (R 739), (U "function.__dict__"), (U "function.__dict__#set")]
noncomputable def JCS := Zy "getset_descriptor" #[(S "__weakref__" 1269), (R 739), (U "ExceptionGroup.__weakref__"), .none]
noncomputable def JCT := Zy "super" #[(R 739), (R 739), (R 739)]
noncomputable def JCU := Zy "builtin_function_or_method" #[(U "object.__init_subclass__"), (R 739)]
noncomputable def JCV := Zt #[]
noncomputable def JCW := Zf #[]
noncomputable def JCX := Zt #[(S "painter" 1277), (S "operations" 1278), (S "operation" 1279)]
noncomputable def JCY := Zt #[]
noncomputable def JCZ := Zm [76] "paint_all" "paint_all"
noncomputable def JCa := Zk "paint_all" "paint_all" 1274 1275 1276 457 2 0 0 3 744 true 181 745 (R 746) (R 747) (R 748) 1280 457 1281
noncomputable def JCb := Zu [76] "paint_all" "paint_all" (S "paperhold.painter" 1113) 749
noncomputable def tr14 (P : Params) : BT := (n (J00 P) (n (J01 P) (n (JBx P) (n J07 (n J0I (n J0Y (n J19 (n J2B (n J4L (f J8c) z) (n J6U (f JAk) z)) (n J3F (n J5P (f J9g) z) (n J7Y (f JBo) z))) (n J1f (n J2h (n J4r (f J9A) z) (n J72 (f JBI) z)) (n J3n (n J5y (f JAE) z) (n (J86 P) (f JCM) z)))) (n J0o (n J1P (n J2R (n J4b (f J8u) z) (n J6m (f JB2) z)) (n J3V (n J5f (f J9y) z) (n J7q (f JC6) z))) (n J1v (n J2z (n J57 (f J9Q) z) (n J7I (f JBY) z)) (n J43 (n J6E (f JAU) z) (f J8M))))) (n J0Q (n J0g (n J1H (n J2J (n J4T (f J8k) z) (n J6c (f JAs) z)) (n J3N (n J5X (f (J9q P)) z) (n J7i (f JBw) z))) (n J1n (n J2r (n J4z (f J9I) z) (n J7A (f JBQ) z)) (n J3v (n J66 (f JAM) z) (n J8E (f JCU) z)))) (n J0z (n J1X (n J2Z (n J4j (f J92) z) (n J6u (f JBA) z)) (n J3f (n J5q (f JA6) z) (n J7y (f JCE) z))) (n J23 (n J37 (n J5H (f J9Y) z) (n J7Q (f JBg) z)) (n J4B (n J6M (f JAc) z) (f J8U)))))) (n J0B (n J0M (n J0c (n J1D (n J2F (n J4P (f J8g) z) (n J6Y (f JAo) z)) (n J3J (n J5T (f J9k) z) (n J7c (f JBs) z))) (n J1j (n J2n (n J4v (f J9E) z) (n J76 (f JBM) z)) (n J3r (n J62 (f JAI) z) (n J8A (f JCQ) z)))) (n J0v (n J1T (n J2V (n J4f (f J8y) z) (n J6q (f JB6) z)) (n (J3b P) (n J5j (f JA2) z) (n J7u (f JCA) z))) (n J1z (n J33 (n J5D (f J9U) z) (n J7M (f JBc) z)) (n J47 (n J6I (f JAY) z) (f J8Q))))) (n J0U (n J0k (n J1L (n J2N (n J4X (f J8o) z) (n J6i (f JAy) z)) (n (J3R P) (n J5b (f J9u) z) (n J7m (f JC2) z))) (n J1r (n J2v (n J53 (f J9M) z) (n J7E (f JBU) z)) (n J3z (n J6A (f JAQ) z) (n J8I (f JCY) z)))) (n J13 (n J1b (n J2d (n J4n (f J96) z) (n J6y (f JBE) z)) (n J3j (n J5u (f JAA) z) (n J82 (f JCI) z))) (n J27 (n J3B (n J5L (f J9c) z) (n J7U (f JBk) z)) (n J4F (n J6Q (f JAg) z) (f J8Y))))))) (n J05 (n J09 (n J0K (n J0a (n J1B (n J2D (n J4N (f J8e) z) (n J6W (f JAm) z)) (n J3H (n J5R (f J9i) z) (n J7a (f JBq) z))) (n J1h (n J2l (n J4t (f J9C) z) (n J74 (f JBK) z)) (n (J3p P) (n J60 (f JAG) z) (n J88 (f JCO) z)))) (n J0q (n J1R (n J2T (n J4d (f J8w) z) (n J6o (f JB4) z)) (n J3Z (n J5o (f JA0) z) (n J7s (f JC8) z))) (n J1x (n J31 (n J59 (f J9S) z) (n J7K (f JBa) z)) (n J45 (n J6G (f JAW) z) (f J8O))))) (n J0S (n J0i (n J1J (n J2L (n J4V (f J8m) z) (n J6e (f JAu) z)) (n J3P (n J5Z (f J9s) z) (n J7k (f JC0) z))) (n J1p (n J2t (n J51 (f J9K) z) (n J7C (f JBS) z)) (n (J3x P) (n J68 (f JAO) z) (n J8G (f JCW) z)))) (n J11 (n J1Z (n J2b (n J4l (f J94) z) (n J6w (f JBC) z)) (n J3h (n J5s (f JA8) z) (n J80 (f JCG) z))) (n J25 (n J39 (n J5J (f J9a) z) (n J7S (f JBi) z)) (n J4D (n J6O (f JAe) z) (f J8W)))))) (n J0D (n J0O (n J0e (n J1F (n J2H (n J4R (f J8i) z) (n J6a (f JAq) z)) (n J3L (n J5V (f J9o) z) (n J7e (f JBu) z))) (n J1l (n J2p (n J4x (f J9G) z) (n J78 (f JBO) z)) (n J3t (n J64 (f JAK) z) (n J8C (f JCS) z)))) (n J0x (n J1V (n J2X (n J4h (f J90) z) (n J6s (f JB8) z)) (n J3d (n J5l (f JA4) z) (n J7w (f JCC) z))) (n J21 (n J35 (n J5F (f J9W) z) (n J7O (f JBe) z)) (n J49 (n J6K (f JAa) z) (f J8S))))) (n J0W (n (J0m P) (n J1N (n J2P (n J4Z (f J8q) z) (n J6k (f JB0) z)) (n J3T (n J5d (f J9w) z) (n J7o (f (JC4 P)) z))) (n J1t (n J2x (n J55 (f J9O) z) (n J7G (f JBW) z)) (n J41 (n J6C (f JAS) z) (n J8K (f JCa) z)))) (n J15 (n J1d (n J2f (n J4p (f J98) z) (n J70 (f JBG) z)) (n J3l (n J5w (f JAC) z) (n J84 (f JCK) z))) (n J29 (n J3D (n J5N (f J9e) z) (n J7W (f JBm) z)) (n J4J (n J6S (f JAi) z) (f J8a)))))))) (n (J0F P) (n J04 (n J08 (n J0J (n J0Z (n (J1A P) (n J2C (n J4M (f J8d) z) (n J6V (f JAl) z)) (n J3G (n J5Q (f J9h) z) (n J7Z (f JBp) z))) (n J1g (n J2k (n J4s (f J9B) z) (n J73 (f JBJ) z)) (n J3o (n J5z (f JAF) z) (n J87 (f JCN) z)))) (n J0p (n J1Q (n J2S (n J4c (f J8v) z) (n J6n (f JB3) z)) (n J3W (n (J5g P) (f J9z) z) (n (J7r P) (f JC7) z))) (n J1w (n J30 (n J58 (f J9R) z) (n J7J (f JBZ) z)) (n J44 (n J6F (f JAV) z) (f J8N))))) (n (J0R P) (n J0h (n J1I (n J2K (n J4U (f J8l) z) (n J6d (f JAt) z)) (n J3O (n J5Y (f J9r) z) (n J7j (f (JBz P)) z))) (n J1o (n J2s (n J50 (f J9J) z) (n J7B (f JBR) z)) (n J3w (n J67 (f JAN) z) (n J8F (f JCV) z)))) (n J10 (n J1Y (n J2a (n J4k (f J93) z) (n J6v (f JBB) z)) (n J3g (n (J5r P) (f JA7) z) (n J7z (f JCF) z))) (n J24 (n J38 (n J5I (f J9Z) z) (n J7R (f JBh) z)) (n J4C (n J6N (f JAd) z) (f J8V)))))) (n JBy (n J0N (n J0d (n J1E (n J2G (n J4Q (f J8h) z) (n J6Z (f JAp) z)) (n J3K (n J5U (f J9l) z) (n J7d (f JBt) z))) (n J1k (n J2o (n J4w (f J9F) z) (n J77 (f JBN) z)) (n J3s (n J63 (f JAJ) z) (n J8B (f JCR) z)))) (n (J0w P) (n J1U (n J2W (n J4g (f J8z) z) (n J6r (f JB7) z)) (n J3c (n J5k (f (JA3 P)) z) (n J7v (f JCB) z))) (n J20 (n J34 (n (J5E P) (f J9V) z) (n J7N (f JBd) z)) (n J48 (n J6J (f JAZ) z) (f J8R))))) (n J0V (n J0l (n J1M (n J2O (n J4Y (f J8p) z) (n (J6j P) (f JAz) z)) (n J3S (n J5c (f J9v) z) (n J7n (f JC3) z))) (n J1s (n J2w (n J54 (f J9N) z) (n J7F (f JBV) z)) (n J40 (n J6B (f JAR) z) (n J8J (f JCZ) z)))) (n J14 (n J1c (n J2e (n J4o (f J97) z) (n J6z (f JBF) z)) (n J3k (n J5v (f JAB) z) (n J83 (f JCJ) z))) (n J28 (n J3C (n J5M (f J9d) z) (n J7V (f JBl) z)) (n J4I (n J6R (f JAh) z) (f J8Z))))))) (n J06 (n J0A (n J0L (n J0b (n J1C (n J2E (n J4O (f J8f) z) (n J6X (f JAn) z)) (n J3I (n J5S (f J9j) z) (n J7b (f JBr) z))) (n J1i (n J2m (n J4u (f J9D) z) (n J75 (f JBL) z)) (n J3q (n J61 (f JAH) z) (n J89 (f (JCP P)) z)))) (n J0u (n J1S (n J2U (n (J4e P) (f J8x) z) (n J6p (f JB5) z)) (n J3a (n J5i (f JA1) z) (n J7t (f JC9) z))) (n J1y (n J32 (n J5C (f J9T) z) (n J7L (f JBb) z)) (n J46 (n J6H (f JAX) z) (f J8P))))) (n J0T (n J0j (n J1K (n J2M (n J4W (f J8n) z) (n J6h (f JAx) z)) (n J3Q (n J5a (f J9t) z) (n J7l (f JC1) z))) (n J1q (n J2u (n J52 (f J9L) z) (n J7D (f JBT) z)) (n J3y (n J69 (f JAP) z) (n J8H (f JCX) z)))) (n (J12 P) (n J1a (n (J2c P) (n J4m (f J95) z) (n J6x (f JBD) z)) (n J3i (n J5t (f JA9) z) (n J81 (f JCH) z))) (n J26 (n J3A (n J5K (f J9b) z) (n (J7T P) (f JBj) z)) (n J4E (n J6P (f JAf) z) (f J8X)))))) (n J0E (n J0P (n J0f (n J1G (n J2I (n J4S (f J8j) z) (n (J6b P) (f JAr) z)) (n J3M (n J5W (f J9p) z) (n J7f (f JBv) z))) (n J1m (n J2q (n J4y (f J9H) z) (n J79 (f JBP) z)) (n J3u (n J65 (f JAL) z) (n J8D (f JCT) z)))) (n J0y (n J1W (n J2Y (n J4i (f J91) z) (n J6t (f JB9) z)) (n J3e (n J5p (f JA5) z) (n J7x (f JCD) z))) (n J22 (n J36 (n J5G (f J9X) z) (n J7P (f JBf) z)) (n (J4A P) (n J6L (f JAb) z) (f J8T))))) (n J0X (n J0t (n J1O (n J2Q (n J4a (f J8r) z) (n J6l (f JB1) z)) (n J3U (n J5e (f J9x) z) (n J7p (f JC5) z))) (n J1u (n J2y (n J56 (f J9P) z) (n J7H (f JBX) z)) (n J42 (n J6D (f JAT) z) (n J8L (f JCb) z)))) (n J18 (n J1e (n J2g (n J4q (f J99) z) (n J71 (f JBH) z)) (n J3m (n J5x (f JAD) z) (n J85 (f JCL) z))) (n J2A (n (J3E P) (n J5O (f J9f) z) (n J7X (f JBn) z)) (n (J4K P) (n J6T (f JAj) z) (f J8b)))))))))
noncomputable def S14 (w : World) (os : OsState) : SharedT := ⟨tr14 w.params, 751, {}, #[], {}, 1283, os⟩
noncomputable def JCc (P : Params) := Zd #[Q0t P, Q00 P, Q01 P, Q02 P, Q03 P, Q04 P, Q05 P, Q06 P, Q07 P, Q08 P, Q09 P, Q0A P, Q0B P, Q0D P, Q0E P, Q0F P, Q0G P, Q0H P, Q0I P, Q0J P, Q0K P, Q0L P, Q0M P, Q0N P, Q0O P, Q0P P, Q0Q P, Q0R P, Q0S P, Q0T P, Q0U P, Q0V P, Q0W P, Q0X P, Q0Y P, Q0Z P, Q0a P, Q0b P, Q0c P, Q0d P, Q0e P, Q0f P, Q0g P, Q0h P, Q0i P, Q0j P, Q0k P, Q0l P, Q0m P, Q0n P, Q0o P, Q0p P, Q0q P, Q0r P, Q0s P, Q0u P, Q0v P, Q0w P, Q0x P, Q0y P, Q0z P, Q10 P, Q11 P, Q12 P, Q13 P, Q14 P, Q15 P, Q16 P, Q17 P, Q18 P, Q19 P, Q1A P, Q1B P, Q1C P, Q1D P, Q1E P, Q1F P, Q1G P, Q1H P, Q1I P, Q1J P, Q1K P, Q1L P, Q1M P, Q1N P, Q1O P, Q1P P, Q1Q P, Q1R P, Q1S P, Q1T P, Q1U P, Q1V P] 93
noncomputable def JCd := Zf #[(Zi 1), (Zi 0), (R 20), (Zi 5), (Zi 0), (R 27), (Zi 14), (Zi 0), (R 55), (Zi 17), (Zi 0), (R 67), (Zi 66), (Zi 0), (R 165), (Zi 68), (Zi 0), (R 172), (Zi 72), (Zi 0), (R 179), (Zi 78), (Zi 0), (R 186), (Zi 85), (Zi 0), (R 193), (Zi 89), (Zi 0), (R 214), (Zi 94), (Zi 0), (R 236), (Zi 99), (Zi 0), (R 257), (Zi 107), (Zi 0), (R 285), (Zi 129), (Zi 0), (R 292), (Zi 131), (Zi 0), (R 299), (Zi 145), (Zi 0), (R 304), (Zi 155), (Zi 0), (R 311), (Zi 174), (Zi 0), (R 347), (Zi 195), (Zi 0), (R 399), (Zi 226), (Zi 0), (R 453), (Zi 228), (Zi 0), (R 460), (Zi 231), (Zi 0), (R 467), (Zi 235), (Zi 0), (R 490), (Zi 237), (Zi 0), (R 497), (Zi 239), (Zi 0), (R 504), (Zi 246), (Zi 0), (R 511), (Zi 249), (Zi 0), (R 518), (Zi 251), (Zi 0), (R 525), (Zi 259), (Zi 0), (R 532), (Zi 261), (Zi 0), (R 539), (Zi 263), (Zi 0), (R 546), (Zi 268), (Zi 0), (R 553), (Zi 270), (Zi 0), (R 560), (Zi 277), (Zi 0), (R 567), (Zi 285), (Zi 0), (R 572), (Zi 290), (Zi 0), (R 579), (Zi 293), (Zi 0), (R 586), (Zi 301), (Zi 0), (R 607), (Zi 310), (Zi 0), (R 614), (Zi 319), (Zi 0), (R 622), (Zi 322), (Zi 0), (R 629), (Zi 324), (Zi 0), (R 634), (Zi 331), (Zi 0), (R 641), (Zi 335), (Zi 0), (R 648), (Zi 340), (Zi 0), (R 655), (Zi 350), (Zi 0), (R 662), (Zi 353), (Zi 0), (R 669), (Zi 360), (Zi 0), (R 676), (Zi 375), (Zi 0), (R 681), (Zi 383), (Zi 0), (R 688), (Zi 397), (Zi 0), (R 693), (Zi 411), (Zi 0), (R 700), (Zi 438), (Zi 0), (R 720), (Zi 457), (Zi 0), (R 749), (Zi 464), (Zi 0), (R 756), (Zi 467), (Zi 0), (R 763), (Zi 473), (Zi 0), (R 770), (Zi 495), (Zi 0), (R 777), (Zi 514), (Zi 0), (R 784), (Zi 523), (Zi 0), (R 791), (Zi 526), (Zi 0), (R 798), (Zi 531), (Zi 0), (R 805), (Zi 543), (Zi 0), (R 810), (Zi 566), (Zi 0), (R 817), (Zi 570), (Zi 0), (R 824), (Zi 583), (Zi 0), (R 831), (Zi 586), (Zi 0), (R 838), (Zi 589), (Zi 0), (R 845)]
noncomputable def JCe := Zt #[]
noncomputable def JCf := Zf #[]
noncomputable def JCg := Zt #[(S "painter" 1286), (S "mark" 1287)]
noncomputable def JCh := Zt #[]
noncomputable def JCi := Zm [77] "put_mark" "put_mark"
noncomputable def JCj := Zk "put_mark" "put_mark" 1283 1284 1285 464 2 0 0 3 751 true 181 752 (R 753) (R 754) (R 755) 1288 464 1289
noncomputable def JCk := Zu [77] "put_mark" "put_mark" (S "paperhold.painter" 1113) 756
noncomputable def JCl := Zt #[]
noncomputable def JCm := Zf #[]
noncomputable def JCn := Zt #[(S "painter" 1294), (S "word" 1295), (S "is_path" 1296)]
noncomputable def JCo := Zt #[]
noncomputable def JCp := Zm [78] "check_place" "check_place"
noncomputable def JCq := Zk "check_place" "check_place" 1291 1292 1293 467 2 0 0 3 758 true 181 759 (R 760) (R 761) (R 762) 1297 467 1298
noncomputable def JCr := Zu [78] "check_place" "check_place" (S "paperhold.painter" 1113) 763
noncomputable def JCs := Zt #[]
noncomputable def JCt := Zf #[]
noncomputable def JCu := Zt #[(S "painter" 1303), (S "word" 1304), (S "values" 1305)]
noncomputable def JCv := Zt #[]
noncomputable def JCw := Zm [79] "perform" "perform"
noncomputable def JCx := Zk "perform" "perform" 1300 1301 1302 473 3 0 0 3 765 true 181 766 (R 767) (R 768) (R 769) 1306 473 1307
noncomputable def JCy := Zu [79] "perform" "perform" (S "paperhold.painter" 1113) 770
noncomputable def JCz := Zt #[]
noncomputable def JD0 := Zf #[]
noncomputable def JD1 := Zt #[(S "painter" 1312), (S "word" 1313), (S "values" 1314)]
noncomputable def JD2 := Zt #[]
noncomputable def JD3 := Zm [80] "do_other" "do_other"
noncomputable def JD4 := Zk "do_other" "do_other" 1309 1310 1311 495 3 0 0 3 772 true 181 773 (R 774) (R 775) (R 776) 1315 495 1316
noncomputable def JD5 := Zu [80] "do_other" "do_other" (S "paperhold.painter" 1113) 777
noncomputable def JD6 := Zt #[]
noncomputable def JD7 := Zf #[]
noncomputable def JD8 := Zt #[(S "painter" 1321), (S "word" 1322), (S "values" 1323)]
noncomputable def JD9 := Zt #[]
noncomputable def JDA := Zm [81] "do_state" "do_state"
noncomputable def JDB := Zk "do_state" "do_state" 1318 1319 1320 514 3 0 0 3 779 true 181 780 (R 781) (R 782) (R 783) 1324 514 1325
noncomputable def JDC := Zu [81] "do_state" "do_state" (S "paperhold.painter" 1113) 784
noncomputable def JDD := Zt #[]
noncomputable def JDE := Zf #[]
noncomputable def JDF := Zt #[(S "values" 1330), (S "a" 1331), (S "b" 1332), (S "c" 1333), (S "d" 1334), (S "e" 1335), (S "f" 1336)]
noncomputable def JDG := Zt #[]
noncomputable def JDH := Zm [82] "matrix_of" "matrix_of"
noncomputable def JDI := Zk "matrix_of" "matrix_of" 1327 1328 1329 523 1 0 0 3 786 true 181 787 (R 788) (R 789) (R 790) 1337 523 1338
noncomputable def JDJ := Zu [82] "matrix_of" "matrix_of" (S "paperhold.painter" 1113) 791
noncomputable def JDK := Zt #[]
noncomputable def JDL := Zf #[]
noncomputable def JDM := Zt #[(S "painter" 1343), (S "word" 1344), (S "name" 1345), (S "found" 1346)]
noncomputable def JDN := Zt #[]
noncomputable def JDO := Zm [83] "named" "named"
noncomputable def JDP := Zk "named" "named" 1340 1341 1342 526 3 0 0 3 793 true 181 794 (R 795) (R 796) (R 797) 1347 526 1348
noncomputable def JDQ := Zu [83] "named" "named" (S "paperhold.painter" 1113) 798
noncomputable def JDR := Zt #[]
noncomputable def JDS := Zf #[]
noncomputable def JDT := Zt #[(S "painter" 1353), (S "word" 1354), (S "values" 1355), (S "head" 1356)]
noncomputable def JDU := Zt #[]
noncomputable def JDV := Zm [84] "do_line" "do_line"
noncomputable def JDW := Zk "do_line" "do_line" 1350 1351 1352 531 3 0 0 3 800 true 181 801 (R 802) (R 803) (R 804) 1357 531 1358
noncomputable def JDX := Zu [84] "do_line" "do_line" (S "paperhold.painter" 1113) 805
noncomputable def JDY := Zt #[]
noncomputable def JDZ := Zf #[]
noncomputable def JDa := Zm [85] "do_path" "do_path"
noncomputable def JDb := Zk "do_path" "do_path" 1360 1361 1362 543 3 0 0 3 807 true 181 808 .none .none (R 809) 1363 543 1364
noncomputable def JDc := Zu [85] "do_path" "do_path" (S "paperhold.painter" 1113) 810
noncomputable def JDd := Zt #[]
noncomputable def JDe := Zf #[]
noncomputable def JDf := Zt #[(S "painter" 1369), (S "word" 1370)]
noncomputable def JDg := Zt #[]
noncomputable def JDh := Zm [86] "do_clip" "do_clip"
noncomputable def JDi := Zk "do_clip" "do_clip" 1366 1367 1368 566 2 0 0 3 812 true 181 813 (R 814) (R 815) (R 816) 1371 566 1372
noncomputable def JDj := Zu [86] "do_clip" "do_clip" (S "paperhold.painter" 1113) 817
noncomputable def JDk := Zt #[]
noncomputable def JDl := Zf #[]
noncomputable def JDm := Zt #[(S "painter" 1377), (S "word" 1378), (S "path" 1379), (S "state" 1380)]
noncomputable def JDn := Zt #[]
noncomputable def JDo := Zm [87] "do_paint" "do_paint"
noncomputable def JDp := Zk "do_paint" "do_paint" 1374 1375 1376 570 2 0 0 3 819 true 181 820 (R 821) (R 822) (R 823) 1381 570 1382
noncomputable def JDq := Zu [87] "do_paint" "do_paint" (S "paperhold.painter" 1113) 824
noncomputable def JDr := Zt #[]
noncomputable def JDs := Zf #[]
noncomputable def JDt := Zt #[(S "painter" 1387), (S "rule" 1388), (S "path" 1389)]
noncomputable def JDu := Zt #[]
noncomputable def JDv := Zm [88] "add_clip" "add_clip"
noncomputable def JDw := Zk "add_clip" "add_clip" 1384 1385 1386 583 3 0 0 3 826 true 181 827 (R 828) (R 829) (R 830) 1390 583 1391
noncomputable def JDx := Zu [88] "add_clip" "add_clip" (S "paperhold.painter" 1113) 831
noncomputable def JDy := Zt #[]
noncomputable def JDz := Zf #[]
noncomputable def JE0 := Zt #[(S "painter" 1396), (S "across" 1397), (S "upward" 1398), (S "begin" 1399)]
noncomputable def JE1 := Zt #[]
noncomputable def JE2 := Zm [89] "move_line" "move_line"
noncomputable def JE3 := Zk "move_line" "move_line" 1393 1394 1395 586 3 0 0 3 833 true 181 834 (R 835) (R 836) (R 837) 1400 586 1401
noncomputable def JE4 := Zu [89] "move_line" "move_line" (S "paperhold.painter" 1113) 838
noncomputable def JE5 := Zt #[]
noncomputable def JE6 := Zf #[]
noncomputable def JE7 := Zt #[(S "painter" 1406), (S "word" 1407), (S "values" 1408), (S "begin" 1409), (S "across" 1410), (S "upward" 1411)]
noncomputable def JE8 := Zt #[]
noncomputable def JE9 := Zm [90] "do_place" "do_place"
noncomputable def JEA := Zk "do_place" "do_place" 1403 1404 1405 589 3 0 0 3 840 true 181 841 (R 842) (R 843) (R 844) 1412 589 1413
noncomputable def JEB := Zu [90] "do_place" "do_place" (S "paperhold.painter" 1113) 845
noncomputable def tr15 (P : Params) : BT := (n (J00 P) (n (J01 P) (n (JCc P) (n J07 (n J0I (n J0Y (n J19 (n J2B (n J4L (f J8c) (f JCu)) (n J6U (f JAk) z)) (n J3F (n J5P (f J9g) (f JDw)) (n J7Y (f JBo) z))) (n J1f (n J2h (n J4r (f J9A) (f JDQ)) (n J72 (f JBI) z)) (n J3n (n J5y (f JAE) z) (n (J86 P) (f JCM) z)))) (n J0o (n J1P (n J2R (n J4b (f J8u) (f JDA)) (n J6m (f JB2) z)) (n J3V (n J5f (f J9y) z) (n J7q (f JC6) z))) (n J1v (n J2z (n J57 (f J9Q) (f JDg)) (n J7I (f JBY) z)) (n J43 (n J6E (f JAU) z) (n J8M (f JCe) z))))) (n J0Q (n J0g (n J1H (n J2J (n J4T (f J8k) (f JD2)) (n J6c (f JAs) z)) (n J3N (n J5X (f (J9q P)) (f JE4)) (n J7i (f JBw) z))) (n J1n (n J2r (n J4z (f J9I) (f JDY)) (n J7A (f JBQ) z)) (n J3v (n J66 (f JAM) z) (n J8E (f JCU) z)))) (n J0z (n J1X (n J2Z (n J4j (f J92) (f JDI)) (n J6u (f JBA) z)) (n J3f (n J5q (f JA6) z) (n J7y (f JCE) z))) (n J23 (n J37 (n J5H (f J9Y) (f JDo)) (n J7Q (f JBg) z)) (n J4B (n J6M (f JAc) z) (n J8U (f JCm) z)))))) (n J0B (n J0M (n J0c (n J1D (n J2F (n J4P (f J8g) (f JCy)) (n J6Y (f JAo) z)) (n J3J (n J5T (f J9k) (f JE0)) (n J7c (f JBs) z))) (n J1j (n J2n (n J4v (f J9E) (f JDU)) (n J76 (f JBM) z)) (n J3r (n J62 (f JAI) z) (n J8A (f JCQ) z)))) (n J0v (n J1T (n J2V (n J4f (f J8y) (f JDE)) (n J6q (f JB6) z)) (n (J3b P) (n J5j (f JA2) z) (n J7u (f JCA) z))) (n J1z (n J33 (n J5D (f J9U) (f JDk)) (n J7M (f JBc) z)) (n J47 (n J6I (f JAY) z) (n J8Q (f JCi) z))))) (n J0U (n J0k (n J1L (n J2N (n J4X (f J8o) (f JD6)) (n J6i (f JAy) z)) (n (J3R P) (n J5b (f J9u) (f JE8)) (n J7m (f JC2) z))) (n J1r (n J2v (n J53 (f J9M) (f JDc)) (n J7E (f JBU) z)) (n J3z (n J6A (f JAQ) z) (n J8I (f JCY) z)))) (n J13 (n J1b (n J2d (n J4n (f J96) (f JDM)) (n J6y (f JBE) z)) (n J3j (n J5u (f JAA) z) (n J82 (f JCI) z))) (n J27 (n J3B (n J5L (f J9c) (f JDs)) (n J7U (f JBk) z)) (n J4F (n J6Q (f JAg) z) (n J8Y (f JCq) z))))))) (n J05 (n J09 (n J0K (n J0a (n J1B (n J2D (n J4N (f J8e) (f JCw)) (n J6W (f JAm) z)) (n J3H (n J5R (f J9i) (f JDy)) (n J7a (f JBq) z))) (n J1h (n J2l (n J4t (f J9C) (f JDS)) (n J74 (f JBK) z)) (n (J3p P) (n J60 (f JAG) z) (n J88 (f JCO) z)))) (n J0q (n J1R (n J2T (n J4d (f J8w) (f JDC)) (n J6o (f JB4) z)) (n J3Z (n J5o (f JA0) z) (n J7s (f JC8) z))) (n J1x (n J31 (n J59 (f J9S) (f JDi)) (n J7K (f JBa) z)) (n J45 (n J6G (f JAW) z) (n J8O (f JCg) z))))) (n J0S (n J0i (n J1J (n J2L (n J4V (f J8m) (f JD4)) (n J6e (f JAu) z)) (n J3P (n J5Z (f J9s) (f JE6)) (n J7k (f JC0) z))) (n J1p (n J2t (n J51 (f J9K) (f JDa)) (n J7C (f JBS) z)) (n (J3x P) (n J68 (f JAO) z) (n J8G (f JCW) z)))) (n J11 (n J1Z (n J2b (n J4l (f J94) (f JDK)) (n J6w (f JBC) z)) (n J3h (n J5s (f JA8) z) (n J80 (f JCG) z))) (n J25 (n J39 (n J5J (f J9a) (f JDq)) (n J7S (f JBi) z)) (n J4D (n J6O (f JAe) z) (n J8W (f JCo) z)))))) (n J0D (n J0O (n J0e (n J1F (n J2H (n J4R (f J8i) (f JD0)) (n J6a (f JAq) z)) (n J3L (n J5V (f J9o) (f JE2)) (n J7e (f JBu) z))) (n J1l (n J2p (n J4x (f J9G) (f JDW)) (n J78 (f JBO) z)) (n J3t (n J64 (f JAK) z) (n J8C (f JCS) z)))) (n J0x (n J1V (n J2X (n J4h (f J90) (f JDG)) (n J6s (f JB8) z)) (n J3d (n J5l (f JA4) z) (n J7w (f JCC) z))) (n J21 (n J35 (n J5F (f J9W) (f JDm)) (n J7O (f JBe) z)) (n J49 (n J6K (f JAa) z) (n J8S (f JCk) z))))) (n J0W (n (J0m P) (n J1N (n J2P (n J4Z (f J8q) (f JD8)) (n J6k (f JB0) z)) (n J3T (n J5d (f J9w) (f JEA)) (n J7o (f (JC4 P)) z))) (n J1t (n J2x (n J55 (f J9O) (f JDe)) (n J7G (f JBW) z)) (n J41 (n J6C (f JAS) z) (n J8K (f JCa) z)))) (n J15 (n J1d (n J2f (n J4p (f J98) (f JDO)) (n J70 (f JBG) z)) (n J3l (n J5w (f JAC) z) (n J84 (f JCK) z))) (n J29 (n J3D (n J5N (f J9e) (f JDu)) (n J7W (f JBm) z)) (n J4J (n J6S (f JAi) z) (n J8a (f JCs) z)))))))) (n (J0F P) (n J04 (n J08 (n J0J (n J0Z (n (J1A P) (n J2C (n J4M (f J8d) (f JCv)) (n J6V (f JAl) z)) (n J3G (n J5Q (f J9h) (f JDx)) (n J7Z (f JBp) z))) (n J1g (n J2k (n J4s (f J9B) (f JDR)) (n J73 (f JBJ) z)) (n J3o (n J5z (f JAF) z) (n J87 (f JCN) z)))) (n J0p (n J1Q (n J2S (n J4c (f J8v) (f JDB)) (n J6n (f JB3) z)) (n J3W (n (J5g P) (f J9z) z) (n (J7r P) (f JC7) z))) (n J1w (n J30 (n J58 (f J9R) (f JDh)) (n J7J (f JBZ) z)) (n J44 (n J6F (f JAV) z) (n J8N (f JCf) z))))) (n (J0R P) (n J0h (n J1I (n J2K (n J4U (f J8l) (f JD3)) (n J6d (f JAt) z)) (n J3O (n J5Y (f J9r) (f JE5)) (n J7j (f (JBz P)) z))) (n J1o (n J2s (n J50 (f J9J) (f JDZ)) (n J7B (f JBR) z)) (n J3w (n J67 (f JAN) z) (n J8F (f JCV) z)))) (n J10 (n J1Y (n J2a (n J4k (f J93) (f JDJ)) (n J6v (f JBB) z)) (n J3g (n (J5r P) (f JA7) z) (n J7z (f JCF) z))) (n J24 (n J38 (n J5I (f J9Z) (f JDp)) (n J7R (f JBh) z)) (n J4C (n J6N (f JAd) z) (n J8V (f JCn) z)))))) (n JCd (n J0N (n J0d (n J1E (n J2G (n J4Q (f J8h) (f JCz)) (n J6Z (f JAp) z)) (n J3K (n J5U (f J9l) (f JE1)) (n J7d (f JBt) z))) (n J1k (n J2o (n J4w (f J9F) (f JDV)) (n J77 (f JBN) z)) (n J3s (n J63 (f JAJ) z) (n J8B (f JCR) z)))) (n (J0w P) (n J1U (n J2W (n J4g (f J8z) (f JDF)) (n J6r (f JB7) z)) (n J3c (n J5k (f (JA3 P)) z) (n J7v (f JCB) z))) (n J20 (n J34 (n (J5E P) (f J9V) (f JDl)) (n J7N (f JBd) z)) (n J48 (n J6J (f JAZ) z) (n J8R (f JCj) z))))) (n J0V (n J0l (n J1M (n J2O (n J4Y (f J8p) (f JD7)) (n (J6j P) (f JAz) z)) (n J3S (n J5c (f J9v) (f JE9)) (n J7n (f JC3) z))) (n J1s (n J2w (n J54 (f J9N) (f JDd)) (n J7F (f JBV) z)) (n J40 (n J6B (f JAR) z) (n J8J (f JCZ) z)))) (n J14 (n J1c (n J2e (n J4o (f J97) (f JDN)) (n J6z (f JBF) z)) (n J3k (n J5v (f JAB) z) (n J83 (f JCJ) z))) (n J28 (n J3C (n J5M (f J9d) (f JDt)) (n J7V (f JBl) z)) (n J4I (n J6R (f JAh) z) (n J8Z (f JCr) z))))))) (n J06 (n J0A (n J0L (n J0b (n J1C (n J2E (n J4O (f J8f) (f JCx)) (n J6X (f JAn) z)) (n J3I (n J5S (f J9j) (f JDz)) (n J7b (f JBr) z))) (n J1i (n J2m (n J4u (f J9D) (f JDT)) (n J75 (f JBL) z)) (n J3q (n J61 (f JAH) z) (n J89 (f (JCP P)) z)))) (n J0u (n J1S (n J2U (n (J4e P) (f J8x) (f JDD)) (n J6p (f JB5) z)) (n J3a (n J5i (f JA1) z) (n J7t (f JC9) z))) (n J1y (n J32 (n J5C (f J9T) (f JDj)) (n J7L (f JBb) z)) (n J46 (n J6H (f JAX) z) (n J8P (f JCh) z))))) (n J0T (n J0j (n J1K (n J2M (n J4W (f J8n) (f JD5)) (n J6h (f JAx) z)) (n J3Q (n J5a (f J9t) (f JE7)) (n J7l (f JC1) z))) (n J1q (n J2u (n J52 (f J9L) (f JDb)) (n J7D (f JBT) z)) (n J3y (n J69 (f JAP) z) (n J8H (f JCX) z)))) (n (J12 P) (n J1a (n (J2c P) (n J4m (f J95) (f JDL)) (n J6x (f JBD) z)) (n J3i (n J5t (f JA9) z) (n J81 (f JCH) z))) (n J26 (n J3A (n J5K (f J9b) (f JDr)) (n (J7T P) (f JBj) z)) (n J4E (n J6P (f JAf) z) (n J8X (f JCp) z)))))) (n J0E (n J0P (n J0f (n J1G (n J2I (n J4S (f J8j) (f JD1)) (n (J6b P) (f JAr) z)) (n J3M (n J5W (f J9p) (f JE3)) (n J7f (f JBv) z))) (n J1m (n J2q (n J4y (f J9H) (f JDX)) (n J79 (f JBP) z)) (n J3u (n J65 (f JAL) z) (n J8D (f JCT) z)))) (n J0y (n J1W (n J2Y (n J4i (f J91) (f JDH)) (n J6t (f JB9) z)) (n J3e (n J5p (f JA5) z) (n J7x (f JCD) z))) (n J22 (n J36 (n J5G (f J9X) (f JDn)) (n J7P (f JBf) z)) (n (J4A P) (n J6L (f JAb) z) (n J8T (f JCl) z))))) (n J0X (n J0t (n J1O (n J2Q (n J4a (f J8r) (f JD9)) (n J6l (f JB1) z)) (n J3U (n J5e (f J9x) (f JEB)) (n J7p (f JC5) z))) (n J1u (n J2y (n J56 (f J9P) (f JDf)) (n J7H (f JBX) z)) (n J42 (n J6D (f JAT) z) (n J8L (f JCb) z)))) (n J18 (n J1e (n J2g (n J4q (f J99) (f JDP)) (n J71 (f JBH) z)) (n J3m (n J5x (f JAD) z) (n J85 (f JCL) z))) (n J2A (n (J3E P) (n J5O (f J9f) (f JDv)) (n J7X (f JBn) z)) (n (J4K P) (n J6T (f JAj) z) (n J8b (f JCt) z)))))))))
noncomputable def S15 (w : World) (os : OsState) : SharedT := ⟨tr15 w.params, 847, {}, #[], {}, 1415, os⟩
noncomputable def JEC (P : Params) := Zd #[E P "__name__" 165 (S "paperhold.content" 1481), Q00 P, Q01 P, Q02 P, Q03 P, Q04 P, Q05 P, Q06 P, Q07 P, Q08 P, Q09 P, Q0A P, Q0B P, Q0D P, Q0E P, Q0F P, Q0G P, Q0H P, Q0I P, Q0J P, Q0K P, Q0L P, Q0M P, Q0N P, Q0O P, Q0P P, Q0Q P, Q0R P, Q0S P, Q0T P, Q0U P, Q0V P, Q0W P, Q0X P, Q0Y P, Q0Z P, Q0a P, Q0b P, Q0c P, Q0d P, Q0e P, Q0f P, Q0g P, Q0h P, Q0i P, Q0j P, Q0k P, Q0l P, Q0m P, Q0n P, Q0o P, Q0p P, Q0q P, Q0r P, Q0s P, Q0u P, Q0v P, Q0w P, Q0x P, Q0y P, Q0z P, Q10 P, Q11 P, Q12 P, Q13 P, Q14 P, Q15 P, Q16 P, Q17 P, Q18 P, Q19 P, Q1A P, Q1B P, Q1C P, Q1D P, Q1E P, Q1F P, Q1G P, Q1H P, Q1I P, Q1J P, Q1K P, Q1L P, Q1M P, Q1N P, Q1O P, Q1P P, Q1Q P, Q1R P, Q1S P, Q1T P, Q1U P, Q1V P, Q1W P, E P "do_show" 1435 (R 860), E P "do_object" 1447 (R 867), Q1X P, E P "enter_form" 1465 (R 879), E P "do_form" 1480 (R 886)] 99
noncomputable def JED := Zf #[(Zi 1), (Zi 0), (R 20), (Zi 5), (Zi 0), (R 27), (Zi 14), (Zi 0), (R 55), (Zi 17), (Zi 0), (R 67), (Zi 66), (Zi 0), (R 165), (Zi 68), (Zi 0), (R 172), (Zi 72), (Zi 0), (R 179), (Zi 78), (Zi 0), (R 186), (Zi 85), (Zi 0), (R 193), (Zi 89), (Zi 0), (R 214), (Zi 94), (Zi 0), (R 236), (Zi 99), (Zi 0), (R 257), (Zi 107), (Zi 0), (R 285), (Zi 129), (Zi 0), (R 292), (Zi 131), (Zi 0), (R 299), (Zi 145), (Zi 0), (R 304), (Zi 155), (Zi 0), (R 311), (Zi 174), (Zi 0), (R 347), (Zi 195), (Zi 0), (R 399), (Zi 226), (Zi 0), (R 453), (Zi 228), (Zi 0), (R 460), (Zi 231), (Zi 0), (R 467), (Zi 235), (Zi 0), (R 490), (Zi 237), (Zi 0), (R 497), (Zi 239), (Zi 0), (R 504), (Zi 246), (Zi 0), (R 511), (Zi 249), (Zi 0), (R 518), (Zi 251), (Zi 0), (R 525), (Zi 259), (Zi 0), (R 532), (Zi 261), (Zi 0), (R 539), (Zi 263), (Zi 0), (R 546), (Zi 268), (Zi 0), (R 553), (Zi 270), (Zi 0), (R 560), (Zi 277), (Zi 0), (R 567), (Zi 285), (Zi 0), (R 572), (Zi 290), (Zi 0), (R 579), (Zi 293), (Zi 0), (R 586), (Zi 301), (Zi 0), (R 607), (Zi 310), (Zi 0), (R 614), (Zi 319), (Zi 0), (R 622), (Zi 322), (Zi 0), (R 629), (Zi 324), (Zi 0), (R 634), (Zi 331), (Zi 0), (R 641), (Zi 335), (Zi 0), (R 648), (Zi 340), (Zi 0), (R 655), (Zi 350), (Zi 0), (R 662), (Zi 353), (Zi 0), (R 669), (Zi 360), (Zi 0), (R 676), (Zi 375), (Zi 0), (R 681), (Zi 383), (Zi 0), (R 688), (Zi 397), (Zi 0), (R 693), (Zi 411), (Zi 0), (R 700), (Zi 438), (Zi 0), (R 720), (Zi 457), (Zi 0), (R 749), (Zi 464), (Zi 0), (R 756), (Zi 467), (Zi 0), (R 763), (Zi 473), (Zi 0), (R 770), (Zi 495), (Zi 0), (R 777), (Zi 514), (Zi 0), (R 784), (Zi 523), (Zi 0), (R 791), (Zi 526), (Zi 0), (R 798), (Zi 531), (Zi 0), (R 805), (Zi 543), (Zi 0), (R 810), (Zi 566), (Zi 0), (R 817), (Zi 570), (Zi 0), (R 824), (Zi 583), (Zi 0), (R 831), (Zi 586), (Zi 0), (R 838), (Zi 589), (Zi 0), (R 845), (Zi 603), (Zi 0), (R 852), (Zi 613), (Zi 0), (R 859), (Zi 632), (Zi 0), (R 866), (Zi 645), (Zi 0), (R 871), (Zi 652), (Zi 0), (R 878), (Zi 663), (Zi 0), (R 885)]
noncomputable def JEE := Zt #[]
noncomputable def JEF := Zf #[]
noncomputable def JEG := Zt #[(S "values" 1418), (S "found" 1419), (S "value" 1420)]
noncomputable def JEH := Zt #[]
noncomputable def JEI := Zm [91] "octets_of_row" "octets_of_row"
noncomputable def JEJ := Zk "octets_of_row" "octets_of_row" 1415 1416 1417 603 1 0 0 3 847 true 181 848 (R 849) (R 850) (R 851) 1421 603 1422
noncomputable def JEK := Zu [91] "octets_of_row" "octets_of_row" (S "paperhold.painter" 1113) 852
noncomputable def JEL := Zt #[]
noncomputable def JEM := Zf #[]
noncomputable def JEN := Zt #[(S "painter" 1427), (S "word" 1428), (S "values" 1429), (S "octets" 1430), (S "count" 1431), (S "matrix" 1432)]
noncomputable def JEO := Zt #[]
noncomputable def JEP := Zm [92] "do_show" "do_show"
noncomputable def JEQ := Zk "do_show" "do_show" 1424 1425 1426 613 3 0 0 3 854 true 181 855 (R 856) (R 857) (R 858) 1433 613 1434
noncomputable def JER := Zu [92] "do_show" "do_show" (S "paperhold.painter" 1113) 859
noncomputable def JES := Zt #[]
noncomputable def JET := Zf #[]
noncomputable def JEU := Zt #[(S "painter" 1439), (S "name" 1440), (S "entry" 1441), (S "stream" 1442), (S "sort" 1443), (S "word" 1444)]
noncomputable def JEV := Zt #[]
noncomputable def JEW := Zm [93] "do_object" "do_object"
noncomputable def JEX := Zk "do_object" "do_object" 1436 1437 1438 632 2 0 0 3 861 true 181 862 (R 863) (R 864) (R 865) 1445 632 1446
noncomputable def JEY := Zu [93] "do_object" "do_object" (S "paperhold.painter" 1113) 866
noncomputable def JEZ := Zt #[]
noncomputable def JEa := Zf #[]
noncomputable def JEb := Zm [94] "form_numbers" "form_numbers"
noncomputable def JEc := Zk "form_numbers" "form_numbers" 1448 1449 1450 645 4 0 0 3 868 true 181 869 .none .none (R 870) 1451 645 1452
noncomputable def JEd := Zu [94] "form_numbers" "form_numbers" (S "paperhold.painter" 1113) 871
noncomputable def JEe := Zt #[]
noncomputable def JEf := Zf #[]
noncomputable def JEg := Zt #[(S "painter" 1457), (S "head" 1458), (S "numbers" 1459), (S "edges" 1460), (S "plain" 1461), (S "own" 1462)]
noncomputable def JEh := Zt #[]
noncomputable def JEi := Zm [95] "enter_form" "enter_form"
noncomputable def JEj := Zk "enter_form" "enter_form" 1454 1455 1456 652 2 0 0 3 873 true 181 874 (R 875) (R 876) (R 877) 1463 652 1464
noncomputable def JEk := Zu [95] "enter_form" "enter_form" (S "paperhold.painter" 1113) 878
noncomputable def JEl := Zt #[]
noncomputable def JEm := Zf #[]
noncomputable def JEn := Zt #[(S "painter" 1469), (S "entry" 1470), (S "stream" 1471), (S "mark" 1472), (S "state" 1473), (S "resources" 1474), (S "floor" 1475), (S "skips" 1476), (S "height" 1477)]
noncomputable def JEo := Zt #[]
noncomputable def JEp := Zm [96] "do_form" "do_form"
noncomputable def JEq := Zk "do_form" "do_form" 1466 1467 1468 663 3 0 0 3 880 true 181 881 (R 882) (R 883) (R 884) 1478 663 1479
noncomputable def JEr := Zu [96] "do_form" "do_form" (S "paperhold.painter" 1113) 885
noncomputable def tr16 (P : Params) : BT := (n (J00 P) (n (J01 P) (n (JEC P) (n J07 (n J0I (n J0Y (n J19 (n J2B (n J4L (f J8c) (f JCu)) (n J6U (f JAk) z)) (n J3F (n J5P (f J9g) (f JDw)) (n J7Y (f JBo) z))) (n J1f (n J2h (n J4r (f J9A) (f JDQ)) (n J72 (f JBI) z)) (n J3n (n J5y (f JAE) (f JEU)) (n (J86 P) (f JCM) z)))) (n J0o (n J1P (n J2R (n J4b (f J8u) (f JDA)) (n J6m (f JB2) z)) (n J3V (n J5f (f J9y) (f JEE)) (n J7q (f JC6) z))) (n J1v (n J2z (n J57 (f J9Q) (f JDg)) (n J7I (f JBY) z)) (n J43 (n J6E (f JAU) (f JEk)) (n J8M (f JCe) z))))) (n J0Q (n J0g (n J1H (n J2J (n J4T (f J8k) (f JD2)) (n J6c (f JAs) z)) (n J3N (n J5X (f (J9q P)) (f JE4)) (n J7i (f JBw) z))) (n J1n (n J2r (n J4z (f J9I) (f JDY)) (n J7A (f JBQ) z)) (n J3v (n J66 (f JAM) (f JEc)) (n J8E (f JCU) z)))) (n J0z (n J1X (n J2Z (n J4j (f J92) (f JDI)) (n J6u (f JBA) z)) (n J3f (n J5q (f JA6) (f JEM)) (n J7y (f JCE) z))) (n J23 (n J37 (n J5H (f J9Y) (f JDo)) (n J7Q (f JBg) z)) (n J4B (n J6M (f JAc) z) (n J8U (f JCm) z)))))) (n J0B (n J0M (n J0c (n J1D (n J2F (n J4P (f J8g) (f JCy)) (n J6Y (f JAo) z)) (n J3J (n J5T (f J9k) (f JE0)) (n J7c (f JBs) z))) (n J1j (n J2n (n J4v (f J9E) (f JDU)) (n J76 (f JBM) z)) (n J3r (n J62 (f JAI) (f JEY)) (n J8A (f JCQ) z)))) (n J0v (n J1T (n J2V (n J4f (f J8y) (f JDE)) (n J6q (f JB6) z)) (n (J3b P) (n J5j (f JA2) (f JEI)) (n J7u (f JCA) z))) (n J1z (n J33 (n J5D (f J9U) (f JDk)) (n J7M (f JBc) z)) (n J47 (n J6I (f JAY) (f JEo)) (n J8Q (f JCi) z))))) (n J0U (n J0k (n J1L (n J2N (n J4X (f J8o) (f JD6)) (n J6i (f JAy) z)) (n (J3R P) (n J5b (f J9u) (f JE8)) (n J7m (f JC2) z))) (n J1r (n J2v (n J53 (f J9M) (f JDc)) (n J7E (f JBU) z)) (n J3z (n J6A (f JAQ) (f JEg)) (n J8I (f JCY) z)))) (n J13 (n J1b (n J2d (n J4n (f J96) (f JDM)) (n J6y (f JBE) z)) (n J3j (n J5u (f JAA) (f JEQ)) (n J82 (f JCI) z))) (n J27 (n J3B (n J5L (f J9c) (f JDs)) (n J7U (f JBk) z)) (n J4F (n J6Q (f JAg) z) (n J8Y (f JCq) z))))))) (n J05 (n J09 (n J0K (n J0a (n J1B (n J2D (n J4N (f J8e) (f JCw)) (n J6W (f JAm) z)) (n J3H (n J5R (f J9i) (f JDy)) (n J7a (f JBq) z))) (n J1h (n J2l (n J4t (f J9C) (f JDS)) (n J74 (f JBK) z)) (n (J3p P) (n J60 (f JAG) (f JEW)) (n J88 (f JCO) z)))) (n J0q (n J1R (n J2T (n J4d (f J8w) (f JDC)) (n J6o (f JB4) z)) (n J3Z (n J5o (f JA0) (f JEG)) (n J7s (f JC8) z))) (n J1x (n J31 (n J59 (f J9S) (f JDi)) (n J7K (f JBa) z)) (n J45 (n J6G (f JAW) (f JEm)) (n J8O (f JCg) z))))) (n J0S (n J0i (n J1J (n J2L (n J4V (f J8m) (f JD4)) (n J6e (f JAu) z)) (n J3P (n J5Z (f J9s) (f JE6)) (n J7k (f JC0) z))) (n J1p (n J2t (n J51 (f J9K) (f JDa)) (n J7C (f JBS) z)) (n (J3x P) (n J68 (f JAO) (f JEe)) (n J8G (f JCW) z)))) (n J11 (n J1Z (n J2b (n J4l (f J94) (f JDK)) (n J6w (f JBC) z)) (n J3h (n J5s (f JA8) (f JEO)) (n J80 (f JCG) z))) (n J25 (n J39 (n J5J (f J9a) (f JDq)) (n J7S (f JBi) z)) (n J4D (n J6O (f JAe) z) (n J8W (f JCo) z)))))) (n J0D (n J0O (n J0e (n J1F (n J2H (n J4R (f J8i) (f JD0)) (n J6a (f JAq) z)) (n J3L (n J5V (f J9o) (f JE2)) (n J7e (f JBu) z))) (n J1l (n J2p (n J4x (f J9G) (f JDW)) (n J78 (f JBO) z)) (n J3t (n J64 (f JAK) (f JEa)) (n J8C (f JCS) z)))) (n J0x (n J1V (n J2X (n J4h (f J90) (f JDG)) (n J6s (f JB8) z)) (n J3d (n J5l (f JA4) (f JEK)) (n J7w (f JCC) z))) (n J21 (n J35 (n J5F (f J9W) (f JDm)) (n J7O (f JBe) z)) (n J49 (n J6K (f JAa) (f JEq)) (n J8S (f JCk) z))))) (n J0W (n (J0m P) (n J1N (n J2P (n J4Z (f J8q) (f JD8)) (n J6k (f JB0) z)) (n J3T (n J5d (f J9w) (f JEA)) (n J7o (f (JC4 P)) z))) (n J1t (n J2x (n J55 (f J9O) (f JDe)) (n J7G (f JBW) z)) (n J41 (n J6C (f JAS) (f JEi)) (n J8K (f JCa) z)))) (n J15 (n J1d (n J2f (n J4p (f J98) (f JDO)) (n J70 (f JBG) z)) (n J3l (n J5w (f JAC) (f JES)) (n J84 (f JCK) z))) (n J29 (n J3D (n J5N (f J9e) (f JDu)) (n J7W (f JBm) z)) (n J4J (n J6S (f JAi) z) (n J8a (f JCs) z)))))))) (n (J0F P) (n J04 (n J08 (n J0J (n J0Z (n (J1A P) (n J2C (n J4M (f J8d) (f JCv)) (n J6V (f JAl) z)) (n J3G (n J5Q (f J9h) (f JDx)) (n J7Z (f JBp) z))) (n J1g (n J2k (n J4s (f J9B) (f JDR)) (n J73 (f JBJ) z)) (n J3o (n J5z (f JAF) (f JEV)) (n J87 (f JCN) z)))) (n J0p (n J1Q (n J2S (n J4c (f J8v) (f JDB)) (n J6n (f JB3) z)) (n J3W (n (J5g P) (f J9z) (f JEF)) (n (J7r P) (f JC7) z))) (n J1w (n J30 (n J58 (f J9R) (f JDh)) (n J7J (f JBZ) z)) (n J44 (n J6F (f JAV) (f JEl)) (n J8N (f JCf) z))))) (n (J0R P) (n J0h (n J1I (n J2K (n J4U (f J8l) (f JD3)) (n J6d (f JAt) z)) (n J3O (n J5Y (f J9r) (f JE5)) (n J7j (f (JBz P)) z))) (n J1o (n J2s (n J50 (f J9J) (f JDZ)) (n J7B (f JBR) z)) (n J3w (n J67 (f JAN) (f JEd)) (n J8F (f JCV) z)))) (n J10 (n J1Y (n J2a (n J4k (f J93) (f JDJ)) (n J6v (f JBB) z)) (n J3g (n (J5r P) (f JA7) (f JEN)) (n J7z (f JCF) z))) (n J24 (n J38 (n J5I (f J9Z) (f JDp)) (n J7R (f JBh) z)) (n J4C (n J6N (f JAd) z) (n J8V (f JCn) z)))))) (n JED (n J0N (n J0d (n J1E (n J2G (n J4Q (f J8h) (f JCz)) (n J6Z (f JAp) z)) (n J3K (n J5U (f J9l) (f JE1)) (n J7d (f JBt) z))) (n J1k (n J2o (n J4w (f J9F) (f JDV)) (n J77 (f JBN) z)) (n J3s (n J63 (f JAJ) (f JEZ)) (n J8B (f JCR) z)))) (n (J0w P) (n J1U (n J2W (n J4g (f J8z) (f JDF)) (n J6r (f JB7) z)) (n J3c (n J5k (f (JA3 P)) (f JEJ)) (n J7v (f JCB) z))) (n J20 (n J34 (n (J5E P) (f J9V) (f JDl)) (n J7N (f JBd) z)) (n J48 (n J6J (f JAZ) (f JEp)) (n J8R (f JCj) z))))) (n J0V (n J0l (n J1M (n J2O (n J4Y (f J8p) (f JD7)) (n (J6j P) (f JAz) z)) (n J3S (n J5c (f J9v) (f JE9)) (n J7n (f JC3) z))) (n J1s (n J2w (n J54 (f J9N) (f JDd)) (n J7F (f JBV) z)) (n J40 (n J6B (f JAR) (f JEh)) (n J8J (f JCZ) z)))) (n J14 (n J1c (n J2e (n J4o (f J97) (f JDN)) (n J6z (f JBF) z)) (n J3k (n J5v (f JAB) (f JER)) (n J83 (f JCJ) z))) (n J28 (n J3C (n J5M (f J9d) (f JDt)) (n J7V (f JBl) z)) (n J4I (n J6R (f JAh) z) (n J8Z (f JCr) z))))))) (n J06 (n J0A (n J0L (n J0b (n J1C (n J2E (n J4O (f J8f) (f JCx)) (n J6X (f JAn) z)) (n J3I (n J5S (f J9j) (f JDz)) (n J7b (f JBr) z))) (n J1i (n J2m (n J4u (f J9D) (f JDT)) (n J75 (f JBL) z)) (n J3q (n J61 (f JAH) (f JEX)) (n J89 (f (JCP P)) z)))) (n J0u (n J1S (n J2U (n (J4e P) (f J8x) (f JDD)) (n J6p (f JB5) z)) (n J3a (n J5i (f JA1) (f JEH)) (n J7t (f JC9) z))) (n J1y (n J32 (n J5C (f J9T) (f JDj)) (n J7L (f JBb) z)) (n J46 (n J6H (f JAX) (f JEn)) (n J8P (f JCh) z))))) (n J0T (n J0j (n J1K (n J2M (n J4W (f J8n) (f JD5)) (n J6h (f JAx) z)) (n J3Q (n J5a (f J9t) (f JE7)) (n J7l (f JC1) z))) (n J1q (n J2u (n J52 (f J9L) (f JDb)) (n J7D (f JBT) z)) (n J3y (n J69 (f JAP) (f JEf)) (n J8H (f JCX) z)))) (n (J12 P) (n J1a (n (J2c P) (n J4m (f J95) (f JDL)) (n J6x (f JBD) z)) (n J3i (n J5t (f JA9) (f JEP)) (n J81 (f JCH) z))) (n J26 (n J3A (n J5K (f J9b) (f JDr)) (n (J7T P) (f JBj) z)) (n J4E (n J6P (f JAf) z) (n J8X (f JCp) z)))))) (n J0E (n J0P (n J0f (n J1G (n J2I (n J4S (f J8j) (f JD1)) (n (J6b P) (f JAr) z)) (n J3M (n J5W (f J9p) (f JE3)) (n J7f (f JBv) z))) (n J1m (n J2q (n J4y (f J9H) (f JDX)) (n J79 (f JBP) z)) (n J3u (n J65 (f JAL) (f JEb)) (n J8D (f JCT) z)))) (n J0y (n J1W (n J2Y (n J4i (f J91) (f JDH)) (n J6t (f JB9) z)) (n J3e (n J5p (f JA5) (f JEL)) (n J7x (f JCD) z))) (n J22 (n J36 (n J5G (f J9X) (f JDn)) (n J7P (f JBf) z)) (n (J4A P) (n J6L (f JAb) (f JEr)) (n J8T (f JCl) z))))) (n J0X (n J0t (n J1O (n J2Q (n J4a (f J8r) (f JD9)) (n J6l (f JB1) z)) (n J3U (n J5e (f J9x) (f JEB)) (n J7p (f JC5) z))) (n J1u (n J2y (n J56 (f J9P) (f JDf)) (n J7H (f JBX) z)) (n J42 (n J6D (f JAT) (f JEj)) (n J8L (f JCb) z)))) (n J18 (n J1e (n J2g (n J4q (f J99) (f JDP)) (n J71 (f JBH) z)) (n J3m (n J5x (f JAD) (f JET)) (n J85 (f JCL) z))) (n J2A (n (J3E P) (n J5O (f J9f) (f JDv)) (n J7X (f JBn) z)) (n (J4K P) (n J6T (f JAj) z) (n J8b (f JCt) z)))))))))
noncomputable def S16 (w : World) (os : OsState) : SharedT := ⟨tr16 w.params, 887, {}, #[], {}, 1483, os⟩
noncomputable def JEs (P : Params) := Zd #[E P "__name__" 165 (S "law_qd0133_01" 1520), Q00 P, Q01 P, Q02 P, Q03 P, Q04 P, Q05 P, Q06 P, Q07 P, Q08 P, Q09 P, Q0A P, Q0B P, Q0D P, Q0E P, Q0F P, Q0G P, Q0H P, Q0I P, Q0J P, Q0K P, Q0L P, Q0M P, Q0N P, Q0O P, Q0P P, Q0Q P, Q0R P, Q0S P, Q0T P, Q0U P, Q0V P, Q0W P, Q0X P, Q0Y P, Q0Z P, Q0a P, Q0b P, Q0c P, Q0d P, Q0e P, Q0f P, Q0g P, Q0h P, Q0i P, Q0j P, Q0k P, Q0l P, Q0m P, Q0n P, Q0o P, Q0p P, Q0q P, Q0r P, Q0s P, Q0u P, Q0v P, Q0w P, Q0x P, Q0y P, Q0z P, Q10 P, Q11 P, Q12 P, Q13 P, Q14 P, Q15 P, Q16 P, Q17 P, Q18 P, Q19 P, Q1A P, Q1B P, Q1C P, Q1D P, Q1E P, Q1F P, Q1G P, Q1H P, Q1I P, Q1J P, Q1K P, Q1L P, Q1M P, Q1N P, Q1O P, Q1P P, Q1Q P, Q1R P, Q1S P, Q1T P, Q1U P, Q1V P, Q1W P, E P "do_show" 1435 (R 860), E P "do_object" 1447 (R 867), Q1X P, E P "enter_form" 1465 (R 879), E P "do_form" 1480 (R 886), E P "Operation" 1519 (R 908), E P "_law_source" 1527 (R 917), E P "_law_take" 1538 (R 924), E P "_law_wishes" 1544 (R 929), E P "_law_names" 1555 (R 936), E P "_law_entries" 1566 (R 943), E P "_law_rows" 1572 (R 948)] 106
noncomputable def JEt := Zf #[(Zi 1), (Zi 0), (R 20), (Zi 5), (Zi 0), (R 27), (Zi 14), (Zi 0), (R 55), (Zi 17), (Zi 0), (R 67), (Zi 66), (Zi 0), (R 165), (Zi 68), (Zi 0), (R 172), (Zi 72), (Zi 0), (R 179), (Zi 78), (Zi 0), (R 186), (Zi 85), (Zi 0), (R 193), (Zi 89), (Zi 0), (R 214), (Zi 94), (Zi 0), (R 236), (Zi 99), (Zi 0), (R 257), (Zi 107), (Zi 0), (R 285), (Zi 129), (Zi 0), (R 292), (Zi 131), (Zi 0), (R 299), (Zi 145), (Zi 0), (R 304), (Zi 155), (Zi 0), (R 311), (Zi 174), (Zi 0), (R 347), (Zi 195), (Zi 0), (R 399), (Zi 226), (Zi 0), (R 453), (Zi 228), (Zi 0), (R 460), (Zi 231), (Zi 0), (R 467), (Zi 235), (Zi 0), (R 490), (Zi 237), (Zi 0), (R 497), (Zi 239), (Zi 0), (R 504), (Zi 246), (Zi 0), (R 511), (Zi 249), (Zi 0), (R 518), (Zi 251), (Zi 0), (R 525), (Zi 259), (Zi 0), (R 532), (Zi 261), (Zi 0), (R 539), (Zi 263), (Zi 0), (R 546), (Zi 268), (Zi 0), (R 553), (Zi 270), (Zi 0), (R 560), (Zi 277), (Zi 0), (R 567), (Zi 285), (Zi 0), (R 572), (Zi 290), (Zi 0), (R 579), (Zi 293), (Zi 0), (R 586), (Zi 301), (Zi 0), (R 607), (Zi 310), (Zi 0), (R 614), (Zi 319), (Zi 0), (R 622), (Zi 322), (Zi 0), (R 629), (Zi 324), (Zi 0), (R 634), (Zi 331), (Zi 0), (R 641), (Zi 335), (Zi 0), (R 648), (Zi 340), (Zi 0), (R 655), (Zi 350), (Zi 0), (R 662), (Zi 353), (Zi 0), (R 669), (Zi 360), (Zi 0), (R 676), (Zi 375), (Zi 0), (R 681), (Zi 383), (Zi 0), (R 688), (Zi 397), (Zi 0), (R 693), (Zi 411), (Zi 0), (R 700), (Zi 438), (Zi 0), (R 720), (Zi 457), (Zi 0), (R 749), (Zi 464), (Zi 0), (R 756), (Zi 467), (Zi 0), (R 763), (Zi 473), (Zi 0), (R 770), (Zi 495), (Zi 0), (R 777), (Zi 514), (Zi 0), (R 784), (Zi 523), (Zi 0), (R 791), (Zi 526), (Zi 0), (R 798), (Zi 531), (Zi 0), (R 805), (Zi 543), (Zi 0), (R 810), (Zi 566), (Zi 0), (R 817), (Zi 570), (Zi 0), (R 824), (Zi 583), (Zi 0), (R 831), (Zi 586), (Zi 0), (R 838), (Zi 589), (Zi 0), (R 845), (Zi 603), (Zi 0), (R 852), (Zi 613), (Zi 0), (R 859), (Zi 632), (Zi 0), (R 866), (Zi 645), (Zi 0), (R 871), (Zi 652), (Zi 0), (R 878), (Zi 663), (Zi 0), (R 885), (Zi 681), (Zi 0), (R 892), (Zi 690), (Zi 0), (R 916), (Zi 696), (Zi 0), (R 923), (Zi 703), (Zi 0), (R 928), (Zi 705), (Zi 0), (R 935), (Zi 712), (Zi 0), (R 942), (Zi 718), (Zi 0), (R 947)]
noncomputable def JEu := Zt #[]
noncomputable def JEv := Zy "builtin_function_or_method" #[(U "type.__prepare__"), (Y "type")]
noncomputable def JEw (P : Params) := Zd #[E P "__module__" 1490 (S "paperhold.content" 1481), E P "__qualname__" 1492 (S "Operation" 1491), E P "__firstlineno__" 1494 (I 681 1493), E P "__init__" 1503 (R 900), E P "told" 1509 (R 905), E P "__static_attributes__" 1512 (R 906)] 6
noncomputable def JEx := Zt #[]
noncomputable def JEy := Zf #[(Zi 683), (Zi 4), (R 899), (Zi 687), (Zi 4), (R 904)]
noncomputable def JEz := Zk "Operation" "Operation" 1485 1486 1487 681 0 0 0 0 890 false 181 891 .none .none .none 1488 681 1489
noncomputable def JF0 : Obj := ⟨(Y "frame"), none, .plain, #[some (R 892), some (R 3), some (R 889), none, some (S "paperhold.content" 1481), none, some (R 0)]⟩
noncomputable def JF1 := Zt #[]
noncomputable def JF2 := Zf #[]
noncomputable def JF3 := Zt #[(S "self" 1498), (S "word" 1499), (S "operands" 1500)]
noncomputable def JF4 := Zt #[]
noncomputable def JF5 := Zm [98, 0] "__init__" "Operation.__init__"
noncomputable def JF6 := Zk "__init__" "Operation.__init__" 1495 1496 1497 683 3 0 0 3 894 true 181 895 (R 896) (R 897) (R 898) 1501 683 1502
noncomputable def JF7 := Zu [98, 0] "__init__" "Operation.__init__" (S "paperhold.content" 1481) 899
noncomputable def JF8 := Zt #[]
noncomputable def JF9 := Zf #[]
noncomputable def JFA := Zm [98, 1] "told" "Operation.told"
noncomputable def JFB := Zk "told" "Operation.told" 1504 1505 1506 687 1 0 0 3 901 true 181 902 .none .none (R 903) 1507 687 1508
noncomputable def JFC := Zu [98, 1] "told" "Operation.told" (S "paperhold.content" 1481) 904
noncomputable def JFD := Zt #[(S "operands" 1510), (S "word" 1511)]
noncomputable def JFE (P : Params) := Zd #[E P "__module__" 1490 (S "paperhold.content" 1481), E P "__firstlineno__" 1494 (I 681 1493), E P "__init__" 1503 (R 900), E P "told" 1509 (R 905), E P "__static_attributes__" 1512 (R 906), E P "__dict__" 1514 (R 909), E P "__weakref__" 1516 (R 910), E P "__doc__" 1517 .none] 4
noncomputable def JFF : Obj := ⟨(Y "type"), none, (.cls (cd "Operation" [(Y "object")] [(R 908), (Y "object")] 907 "Operation" true [] [] false none false)), #[none, none, some (S "Operation" 1483), some (S "Operation" 1491), some (U "object.__new__"), some (.bool true)]⟩
noncomputable def JFG := Zy "getset_descriptor" #[(S "__dict__" 1513), (R 908), (U "function.__dict__"), (U "function.__dict__#set")]
noncomputable def JFH := Zy "getset_descriptor" #[(S "__weakref__" 1515), (R 908), (U "ExceptionGroup.__weakref__"), .none]
noncomputable def JFI := Zy "super" #[(R 908), (R 908), (R 908)]
noncomputable def JFJ := Zy "builtin_function_or_method" #[(U "object.__init_subclass__"), (R 908)]
noncomputable def JFK := Zt #[]
noncomputable def JFL := Zf #[]
noncomputable def JFM := Zm [100] "_law_source" "_law_source"
noncomputable def JFN := Zk "_law_source" "_law_source" 1522 1523 1524 690 1 0 0 3 913 true 181 914 .none .none (R 915) 1525 690 1526
noncomputable def JFO := Zu [100] "_law_source" "_law_source" (S "law_qd0133_01" 1520) 916
noncomputable def JFP := Zt #[]
noncomputable def JFQ := Zf #[]
noncomputable def JFR := Zt #[(S "source" 1531), (S "limit" 1532), (S "cells" 1533), (S "rest" 1534), (S "place" 1535)]
noncomputable def JFS := Zt #[]
noncomputable def JFT := Zm [101] "_law_take" "_law_take"
noncomputable def JFU := Zk "_law_take" "_law_take" 1528 1529 1530 696 2 0 0 3 918 true 181 919 (R 920) (R 921) (R 922) 1536 696 1537
noncomputable def JFV := Zu [101] "_law_take" "_law_take" (S "law_qd0133_01" 1520) 923
noncomputable def JFW := Zt #[]
noncomputable def JFX := Zf #[]
noncomputable def JFY := Zm [102] "_law_wishes" "_law_wishes"
noncomputable def JFZ := Zk "_law_wishes" "_law_wishes" 1539 1540 1541 703 3 0 0 3 925 true 181 926 .none .none (R 927) 1542 703 1543
noncomputable def JFa := Zu [102] "_law_wishes" "_law_wishes" (S "law_qd0133_01" 1520) 928
noncomputable def JFb := Zt #[]
noncomputable def JFc := Zf #[]
noncomputable def JFd := Zt #[(S "source" 1548), (S "count" 1549), (S "found" 1550), (S "letter" 1551), (S "way" 1552)]
noncomputable def JFe := Zt #[]
noncomputable def JFf := Zm [103] "_law_names" "_law_names"
noncomputable def JFg := Zk "_law_names" "_law_names" 1545 1546 1547 705 2 0 0 3 930 true 181 931 (R 932) (R 933) (R 934) 1553 705 1554
noncomputable def JFh := Zu [103] "_law_names" "_law_names" (S "law_qd0133_01" 1520) 935
noncomputable def JFi := Zt #[]
noncomputable def JFj := Zf #[]
noncomputable def JFk := Zt #[(S "names" 1559), (S "world" 1560), (S "found" 1561), (S "letter" 1562), (S "number" 1563)]
noncomputable def JFl := Zt #[]
noncomputable def JFm := Zm [104] "_law_entries" "_law_entries"
noncomputable def JFn := Zk "_law_entries" "_law_entries" 1556 1557 1558 712 2 0 0 3 937 true 181 938 (R 939) (R 940) (R 941) 1564 712 1565
noncomputable def JFo := Zu [104] "_law_entries" "_law_entries" (S "law_qd0133_01" 1520) 942
noncomputable def JFp := Zt #[]
noncomputable def JFq := Zf #[]
noncomputable def JFr := Zm [105] "_law_rows" "_law_rows"
noncomputable def JFs := Zk "_law_rows" "_law_rows" 1567 1568 1569 718 2 0 0 3 944 true 181 945 .none .none (R 946) 1570 718 1571
noncomputable def JFt := Zu [105] "_law_rows" "_law_rows" (S "law_qd0133_01" 1520) 947
noncomputable def tr17 (P : Params) : BT := (n (J00 P) (n (J01 P) (n (JEs P) (n J07 (n J0I (n J0Y (n J19 (n J2B (n J4L (f J8c) (f JCu)) (n J6U (f JAk) (f JF2))) (n J3F (n J5P (f J9g) (f JDw)) (n J7Y (f JBo) z))) (n J1f (n J2h (n J4r (f J9A) (f JDQ)) (n J72 (f JBI) (f JFY))) (n J3n (n J5y (f JAE) (f JEU)) (n (J86 P) (f JCM) z)))) (n J0o (n J1P (n J2R (n J4b (f J8u) (f JDA)) (n J6m (f JB2) (f JFI))) (n J3V (n J5f (f J9y) (f JEE)) (n J7q (f JC6) z))) (n J1v (n J2z (n J57 (f J9Q) (f JDg)) (n J7I (f JBY) (f JFo))) (n J43 (n J6E (f JAU) (f JEk)) (n J8M (f JCe) z))))) (n J0Q (n J0g (n J1H (n J2J (n J4T (f J8k) (f JD2)) (n J6c (f JAs) (f JFA))) (n J3N (n J5X (f (J9q P)) (f JE4)) (n J7i (f JBw) z))) (n J1n (n J2r (n J4z (f J9I) (f JDY)) (n J7A (f JBQ) (f JFg))) (n J3v (n J66 (f JAM) (f JEc)) (n J8E (f JCU) z)))) (n J0z (n J1X (n J2Z (n J4j (f J92) (f JDI)) (n J6u (f JBA) (f JFQ))) (n J3f (n J5q (f JA6) (f JEM)) (n J7y (f JCE) z))) (n J23 (n J37 (n J5H (f J9Y) (f JDo)) (n J7Q (f JBg) z)) (n J4B (n J6M (f JAc) (f JEu)) (n J8U (f JCm) z)))))) (n J0B (n J0M (n J0c (n J1D (n J2F (n J4P (f J8g) (f JCy)) (n J6Y (f JAo) (f JF6))) (n J3J (n J5T (f J9k) (f JE0)) (n J7c (f JBs) z))) (n J1j (n J2n (n J4v (f J9E) (f JDU)) (n J76 (f JBM) (f JFc))) (n J3r (n J62 (f JAI) (f JEY)) (n J8A (f JCQ) z)))) (n J0v (n J1T (n J2V (n J4f (f J8y) (f JDE)) (n J6q (f JB6) (f JFM))) (n (J3b P) (n J5j (f JA2) (f JEI)) (n J7u (f JCA) z))) (n J1z (n J33 (n J5D (f J9U) (f JDk)) (n J7M (f JBc) (f JFs))) (n J47 (n J6I (f JAY) (f JEo)) (n J8Q (f JCi) z))))) (n J0U (n J0k (n J1L (n J2N (n J4X (f J8o) (f JD6)) (n J6i (f JAy) (f (JFE P)))) (n (J3R P) (n J5b (f J9u) (f JE8)) (n J7m (f JC2) z))) (n J1r (n J2v (n J53 (f J9M) (f JDc)) (n J7E (f JBU) (f JFk))) (n J3z (n J6A (f JAQ) (f JEg)) (n J8I (f JCY) z)))) (n J13 (n J1b (n J2d (n J4n (f J96) (f JDM)) (n J6y (f JBE) (f JFU))) (n J3j (n J5u (f JAA) (f JEQ)) (n J82 (f JCI) z))) (n J27 (n J3B (n J5L (f J9c) (f JDs)) (n J7U (f JBk) z)) (n J4F (n J6Q (f JAg) (f JEy)) (n J8Y (f JCq) z))))))) (n J05 (n J09 (n J0K (n J0a (n J1B (n J2D (n J4N (f J8e) (f JCw)) (n J6W (f JAm) (f JF4))) (n J3H (n J5R (f J9i) (f JDy)) (n J7a (f JBq) z))) (n J1h (n J2l (n J4t (f J9C) (f JDS)) (n J74 (f JBK) (f JFa))) (n (J3p P) (n J60 (f JAG) (f JEW)) (n J88 (f JCO) z)))) (n J0q (n J1R (n J2T (n J4d (f J8w) (f JDC)) (n J6o (f JB4) (f JFK))) (n J3Z (n J5o (f JA0) (f JEG)) (n J7s (f JC8) z))) (n J1x (n J31 (n J59 (f J9S) (f JDi)) (n J7K (f JBa) (f JFq))) (n J45 (n J6G (f JAW) (f JEm)) (n J8O (f JCg) z))))) (n J0S (n J0i (n J1J (n J2L (n J4V (f J8m) (f JD4)) (n J6e (f JAu) (f JFC))) (n J3P (n J5Z (f J9s) (f JE6)) (n J7k (f JC0) z))) (n J1p (n J2t (n J51 (f J9K) (f JDa)) (n J7C (f JBS) (f JFi))) (n (J3x P) (n J68 (f JAO) (f JEe)) (n J8G (f JCW) z)))) (n J11 (n J1Z (n J2b (n J4l (f J94) (f JDK)) (n J6w (f JBC) (f JFS))) (n J3h (n J5s (f JA8) (f JEO)) (n J80 (f JCG) z))) (n J25 (n J39 (n J5J (f J9a) (f JDq)) (n J7S (f JBi) z)) (n J4D (n J6O (f JAe) (f (JEw P))) (n J8W (f JCo) z)))))) (n J0D (n J0O (n J0e (n J1F (n J2H (n J4R (f J8i) (f JD0)) (n J6a (f JAq) (f JF8))) (n J3L (n J5V (f J9o) (f JE2)) (n J7e (f JBu) z))) (n J1l (n J2p (n J4x (f J9G) (f JDW)) (n J78 (f JBO) (f JFe))) (n J3t (n J64 (f JAK) (f JEa)) (n J8C (f JCS) z)))) (n J0x (n J1V (n J2X (n J4h (f J90) (f JDG)) (n J6s (f JB8) (f JFO))) (n J3d (n J5l (f JA4) (f JEK)) (n J7w (f JCC) z))) (n J21 (n J35 (n J5F (f J9W) (f JDm)) (n J7O (f JBe) z)) (n J49 (n J6K (f JAa) (f JEq)) (n J8S (f JCk) z))))) (n J0W (n (J0m P) (n J1N (n J2P (n J4Z (f J8q) (f JD8)) (n J6k (f JB0) (f JFG))) (n J3T (n J5d (f J9w) (f JEA)) (n J7o (f (JC4 P)) z))) (n J1t (n J2x (n J55 (f J9O) (f JDe)) (n J7G (f JBW) (f JFm))) (n J41 (n J6C (f JAS) (f JEi)) (n J8K (f JCa) z)))) (n J15 (n J1d (n J2f (n J4p (f J98) (f JDO)) (n J70 (f JBG) (f JFW))) (n J3l (n J5w (f JAC) (f JES)) (n J84 (f JCK) z))) (n J29 (n J3D (n J5N (f J9e) (f JDu)) (n J7W (f JBm) z)) (n J4J (n J6S (f JAi) (f JF0)) (n J8a (f JCs) z)))))))) (n (J0F P) (n J04 (n J08 (n J0J (n J0Z (n (J1A P) (n J2C (n J4M (f J8d) (f JCv)) (n J6V (f JAl) (f JF3))) (n J3G (n J5Q (f J9h) (f JDx)) (n J7Z (f JBp) z))) (n J1g (n J2k (n J4s (f J9B) (f JDR)) (n J73 (f JBJ) (f JFZ))) (n J3o (n J5z (f JAF) (f JEV)) (n J87 (f JCN) z)))) (n J0p (n J1Q (n J2S (n J4c (f J8v) (f JDB)) (n J6n (f JB3) (f JFJ))) (n J3W (n (J5g P) (f J9z) (f JEF)) (n (J7r P) (f JC7) z))) (n J1w (n J30 (n J58 (f J9R) (f JDh)) (n J7J (f JBZ) (f JFp))) (n J44 (n J6F (f JAV) (f JEl)) (n J8N (f JCf) z))))) (n (J0R P) (n J0h (n J1I (n J2K (n J4U (f J8l) (f JD3)) (n J6d (f JAt) (f JFB))) (n J3O (n J5Y (f J9r) (f JE5)) (n J7j (f (JBz P)) z))) (n J1o (n J2s (n J50 (f J9J) (f JDZ)) (n J7B (f JBR) (f JFh))) (n J3w (n J67 (f JAN) (f JEd)) (n J8F (f JCV) z)))) (n J10 (n J1Y (n J2a (n J4k (f J93) (f JDJ)) (n J6v (f JBB) (f JFR))) (n J3g (n (J5r P) (f JA7) (f JEN)) (n J7z (f JCF) z))) (n J24 (n J38 (n J5I (f J9Z) (f JDp)) (n J7R (f JBh) z)) (n J4C (n J6N (f JAd) (f JEv)) (n J8V (f JCn) z)))))) (n JEt (n J0N (n J0d (n J1E (n J2G (n J4Q (f J8h) (f JCz)) (n J6Z (f JAp) (f JF7))) (n J3K (n J5U (f J9l) (f JE1)) (n J7d (f JBt) z))) (n J1k (n J2o (n J4w (f J9F) (f JDV)) (n J77 (f JBN) (f JFd))) (n J3s (n J63 (f JAJ) (f JEZ)) (n J8B (f JCR) z)))) (n (J0w P) (n J1U (n J2W (n J4g (f J8z) (f JDF)) (n J6r (f JB7) (f JFN))) (n J3c (n J5k (f (JA3 P)) (f JEJ)) (n J7v (f JCB) z))) (n J20 (n J34 (n (J5E P) (f J9V) (f JDl)) (n J7N (f JBd) (f JFt))) (n J48 (n J6J (f JAZ) (f JEp)) (n J8R (f JCj) z))))) (n J0V (n J0l (n J1M (n J2O (n J4Y (f J8p) (f JD7)) (n (J6j P) (f JAz) (f JFF))) (n J3S (n J5c (f J9v) (f JE9)) (n J7n (f JC3) z))) (n J1s (n J2w (n J54 (f J9N) (f JDd)) (n J7F (f JBV) (f JFl))) (n J40 (n J6B (f JAR) (f JEh)) (n J8J (f JCZ) z)))) (n J14 (n J1c (n J2e (n J4o (f J97) (f JDN)) (n J6z (f JBF) (f JFV))) (n J3k (n J5v (f JAB) (f JER)) (n J83 (f JCJ) z))) (n J28 (n J3C (n J5M (f J9d) (f JDt)) (n J7V (f JBl) z)) (n J4I (n J6R (f JAh) (f JEz)) (n J8Z (f JCr) z))))))) (n J06 (n J0A (n J0L (n J0b (n J1C (n J2E (n J4O (f J8f) (f JCx)) (n J6X (f JAn) (f JF5))) (n J3I (n J5S (f J9j) (f JDz)) (n J7b (f JBr) z))) (n J1i (n J2m (n J4u (f J9D) (f JDT)) (n J75 (f JBL) (f JFb))) (n J3q (n J61 (f JAH) (f JEX)) (n J89 (f (JCP P)) z)))) (n J0u (n J1S (n J2U (n (J4e P) (f J8x) (f JDD)) (n J6p (f JB5) (f JFL))) (n J3a (n J5i (f JA1) (f JEH)) (n J7t (f JC9) z))) (n J1y (n J32 (n J5C (f J9T) (f JDj)) (n J7L (f JBb) (f JFr))) (n J46 (n J6H (f JAX) (f JEn)) (n J8P (f JCh) z))))) (n J0T (n J0j (n J1K (n J2M (n J4W (f J8n) (f JD5)) (n J6h (f JAx) (f JFD))) (n J3Q (n J5a (f J9t) (f JE7)) (n J7l (f JC1) z))) (n J1q (n J2u (n J52 (f J9L) (f JDb)) (n J7D (f JBT) (f JFj))) (n J3y (n J69 (f JAP) (f JEf)) (n J8H (f JCX) z)))) (n (J12 P) (n J1a (n (J2c P) (n J4m (f J95) (f JDL)) (n J6x (f JBD) (f JFT))) (n J3i (n J5t (f JA9) (f JEP)) (n J81 (f JCH) z))) (n J26 (n J3A (n J5K (f J9b) (f JDr)) (n (J7T P) (f JBj) z)) (n J4E (n J6P (f JAf) (f JEx)) (n J8X (f JCp) z)))))) (n J0E (n J0P (n J0f (n J1G (n J2I (n J4S (f J8j) (f JD1)) (n (J6b P) (f JAr) (f JF9))) (n J3M (n J5W (f J9p) (f JE3)) (n J7f (f JBv) z))) (n J1m (n J2q (n J4y (f J9H) (f JDX)) (n J79 (f JBP) (f JFf))) (n J3u (n J65 (f JAL) (f JEb)) (n J8D (f JCT) z)))) (n J0y (n J1W (n J2Y (n J4i (f J91) (f JDH)) (n J6t (f JB9) (f JFP))) (n J3e (n J5p (f JA5) (f JEL)) (n J7x (f JCD) z))) (n J22 (n J36 (n J5G (f J9X) (f JDn)) (n J7P (f JBf) z)) (n (J4A P) (n J6L (f JAb) (f JEr)) (n J8T (f JCl) z))))) (n J0X (n J0t (n J1O (n J2Q (n J4a (f J8r) (f JD9)) (n J6l (f JB1) (f JFH))) (n J3U (n J5e (f J9x) (f JEB)) (n J7p (f JC5) z))) (n J1u (n J2y (n J56 (f J9P) (f JDf)) (n J7H (f JBX) (f JFn))) (n J42 (n J6D (f JAT) (f JEj)) (n J8L (f JCb) z)))) (n J18 (n J1e (n J2g (n J4q (f J99) (f JDP)) (n J71 (f JBH) (f JFX))) (n J3m (n J5x (f JAD) (f JET)) (n J85 (f JCL) z))) (n J2A (n (J3E P) (n J5O (f J9f) (f JDv)) (n J7X (f JBn) z)) (n (J4K P) (n J6T (f JAj) (f JF1)) (n J8b (f JCt) z)))))))))
noncomputable def S17 (w : World) (os : OsState) : SharedT := ⟨tr17 w.params, 949, {}, #[], {}, 1573, os⟩
noncomputable def JFu (P : Params) := Zd #[E P "__name__" 165 (S "law_qd0133_01" 1520), Q00 P, Q01 P, Q02 P, Q03 P, Q04 P, Q05 P, Q06 P, Q07 P, Q08 P, Q09 P, Q0A P, Q0B P, Q0D P, Q0E P, Q0F P, Q0G P, Q0H P, Q0I P, Q0J P, Q0K P, Q0L P, Q0M P, Q0N P, Q0O P, Q0P P, Q0Q P, Q0R P, Q0S P, Q0T P, Q0U P, Q0V P, Q0W P, Q0X P, Q0Y P, Q0Z P, Q0a P, Q0b P, Q0c P, Q0d P, Q0e P, Q0f P, Q0g P, Q0h P, Q0i P, Q0j P, Q0k P, Q0l P, Q0m P, Q0n P, Q0o P, Q0p P, Q0q P, Q0r P, Q0s P, Q0u P, Q0v P, Q0w P, Q0x P, Q0y P, Q0z P, Q10 P, Q11 P, Q12 P, Q13 P, Q14 P, Q15 P, Q16 P, Q17 P, Q18 P, Q19 P, Q1A P, Q1B P, Q1C P, Q1D P, Q1E P, Q1F P, Q1G P, Q1H P, Q1I P, Q1J P, Q1K P, Q1L P, Q1M P, Q1N P, Q1O P, Q1P P, Q1Q P, Q1R P, Q1S P, Q1T P, Q1U P, Q1V P, Q1W P, E P "do_show" 1435 (R 860), E P "do_object" 1447 (R 867), Q1X P, E P "enter_form" 1465 (R 879), E P "do_form" 1480 (R 886), E P "Operation" 1519 (R 908), E P "_law_source" 1527 (R 917), E P "_law_take" 1538 (R 924), E P "_law_wishes" 1544 (R 929), E P "_law_names" 1555 (R 936), E P "_law_entries" 1566 (R 943), E P "_law_rows" 1572 (R 948), E P "_law_walk" 1588 (R 955), E P "_law_is_let" 1596 (R 962), E P "law" 1602 (R 967)] 109
noncomputable def JFv := Zf #[(Zi 1), (Zi 0), (R 20), (Zi 5), (Zi 0), (R 27), (Zi 14), (Zi 0), (R 55), (Zi 17), (Zi 0), (R 67), (Zi 66), (Zi 0), (R 165), (Zi 68), (Zi 0), (R 172), (Zi 72), (Zi 0), (R 179), (Zi 78), (Zi 0), (R 186), (Zi 85), (Zi 0), (R 193), (Zi 89), (Zi 0), (R 214), (Zi 94), (Zi 0), (R 236), (Zi 99), (Zi 0), (R 257), (Zi 107), (Zi 0), (R 285), (Zi 129), (Zi 0), (R 292), (Zi 131), (Zi 0), (R 299), (Zi 145), (Zi 0), (R 304), (Zi 155), (Zi 0), (R 311), (Zi 174), (Zi 0), (R 347), (Zi 195), (Zi 0), (R 399), (Zi 226), (Zi 0), (R 453), (Zi 228), (Zi 0), (R 460), (Zi 231), (Zi 0), (R 467), (Zi 235), (Zi 0), (R 490), (Zi 237), (Zi 0), (R 497), (Zi 239), (Zi 0), (R 504), (Zi 246), (Zi 0), (R 511), (Zi 249), (Zi 0), (R 518), (Zi 251), (Zi 0), (R 525), (Zi 259), (Zi 0), (R 532), (Zi 261), (Zi 0), (R 539), (Zi 263), (Zi 0), (R 546), (Zi 268), (Zi 0), (R 553), (Zi 270), (Zi 0), (R 560), (Zi 277), (Zi 0), (R 567), (Zi 285), (Zi 0), (R 572), (Zi 290), (Zi 0), (R 579), (Zi 293), (Zi 0), (R 586), (Zi 301), (Zi 0), (R 607), (Zi 310), (Zi 0), (R 614), (Zi 319), (Zi 0), (R 622), (Zi 322), (Zi 0), (R 629), (Zi 324), (Zi 0), (R 634), (Zi 331), (Zi 0), (R 641), (Zi 335), (Zi 0), (R 648), (Zi 340), (Zi 0), (R 655), (Zi 350), (Zi 0), (R 662), (Zi 353), (Zi 0), (R 669), (Zi 360), (Zi 0), (R 676), (Zi 375), (Zi 0), (R 681), (Zi 383), (Zi 0), (R 688), (Zi 397), (Zi 0), (R 693), (Zi 411), (Zi 0), (R 700), (Zi 438), (Zi 0), (R 720), (Zi 457), (Zi 0), (R 749), (Zi 464), (Zi 0), (R 756), (Zi 467), (Zi 0), (R 763), (Zi 473), (Zi 0), (R 770), (Zi 495), (Zi 0), (R 777), (Zi 514), (Zi 0), (R 784), (Zi 523), (Zi 0), (R 791), (Zi 526), (Zi 0), (R 798), (Zi 531), (Zi 0), (R 805), (Zi 543), (Zi 0), (R 810), (Zi 566), (Zi 0), (R 817), (Zi 570), (Zi 0), (R 824), (Zi 583), (Zi 0), (R 831), (Zi 586), (Zi 0), (R 838), (Zi 589), (Zi 0), (R 845), (Zi 603), (Zi 0), (R 852), (Zi 613), (Zi 0), (R 859), (Zi 632), (Zi 0), (R 866), (Zi 645), (Zi 0), (R 871), (Zi 652), (Zi 0), (R 878), (Zi 663), (Zi 0), (R 885), (Zi 681), (Zi 0), (R 892), (Zi 690), (Zi 0), (R 916), (Zi 696), (Zi 0), (R 923), (Zi 703), (Zi 0), (R 928), (Zi 705), (Zi 0), (R 935), (Zi 712), (Zi 0), (R 942), (Zi 718), (Zi 0), (R 947), (Zi 722), (Zi 0), (R 954), (Zi 736), (Zi 0), (R 961), (Zi 742), (Zi 0), (R 966)]
noncomputable def JFw := Zt #[]
noncomputable def JFx := Zf #[]
noncomputable def JFy := Zt #[(S "world" 1576), (S "letter" 1577), (S "names" 1578), (S "above" 1579), (S "due" 1580), (S "number" 1581), (S "generation" 1582), (S "own" 1583), (S "wishes" 1584), (S "one" 1585)]
noncomputable def JFz := Zt #[]
noncomputable def JG0 := Zm [106] "_law_walk" "_law_walk"
noncomputable def JG1 := Zk "_law_walk" "_law_walk" 1573 1574 1575 722 5 0 0 3 949 true 181 950 (R 951) (R 952) (R 953) 1586 722 1587
noncomputable def JG2 := Zu [106] "_law_walk" "_law_walk" (S "law_qd0133_01" 1520) 954
noncomputable def JG3 := Zt #[]
noncomputable def JG4 := Zf #[]
noncomputable def JG5 := Zt #[(S "painter" 1592), (S "rows" 1593)]
noncomputable def JG6 := Zt #[]
noncomputable def JG7 := Zm [107] "_law_is_let" "_law_is_let"
noncomputable def JG8 := Zk "_law_is_let" "_law_is_let" 1589 1590 1591 736 2 0 0 3 956 true 181 957 (R 958) (R 959) (R 960) 1594 736 1595
noncomputable def JG9 := Zu [107] "_law_is_let" "_law_is_let" (S "law_qd0133_01" 1520) 961
noncomputable def JGA := Zt #[]
noncomputable def JGB := Zf #[]
noncomputable def JGC := Zm [108] "law" "law"
noncomputable def JGD := Zk "law" "law" 1597 1598 1599 742 1 0 0 3 963 true 181 964 .none .none (R 965) 1600 742 1601
noncomputable def JGE := Zu [108] "law" "law" (S "law_qd0133_01" 1520) 966
noncomputable def tr18 (P : Params) : BT := (n (J00 P) (n (J01 P) (n (JFu P) (n J07 (n J0I (n J0Y (n J19 (n J2B (n J4L (f J8c) (f JCu)) (n J6U (f JAk) (f JF2))) (n J3F (n J5P (f J9g) (f JDw)) (n J7Y (f JBo) (f JG6)))) (n J1f (n J2h (n J4r (f J9A) (f JDQ)) (n J72 (f JBI) (f JFY))) (n J3n (n J5y (f JAE) (f JEU)) (n (J86 P) (f JCM) z)))) (n J0o (n J1P (n J2R (n J4b (f J8u) (f JDA)) (n J6m (f JB2) (f JFI))) (n J3V (n J5f (f J9y) (f JEE)) (n J7q (f JC6) z))) (n J1v (n J2z (n J57 (f J9Q) (f JDg)) (n J7I (f JBY) (f JFo))) (n J43 (n J6E (f JAU) (f JEk)) (n J8M (f JCe) z))))) (n J0Q (n J0g (n J1H (n J2J (n J4T (f J8k) (f JD2)) (n J6c (f JAs) (f JFA))) (n J3N (n J5X (f (J9q P)) (f JE4)) (n J7i (f JBw) (f JGE)))) (n J1n (n J2r (n J4z (f J9I) (f JDY)) (n J7A (f JBQ) (f JFg))) (n J3v (n J66 (f JAM) (f JEc)) (n J8E (f JCU) z)))) (n J0z (n J1X (n J2Z (n J4j (f J92) (f JDI)) (n J6u (f JBA) (f JFQ))) (n J3f (n J5q (f JA6) (f JEM)) (n J7y (f JCE) z))) (n J23 (n J37 (n J5H (f J9Y) (f JDo)) (n J7Q (f JBg) (f JFy))) (n J4B (n J6M (f JAc) (f JEu)) (n J8U (f JCm) z)))))) (n J0B (n J0M (n J0c (n J1D (n J2F (n J4P (f J8g) (f JCy)) (n J6Y (f JAo) (f JF6))) (n J3J (n J5T (f J9k) (f JE0)) (n J7c (f JBs) (f JGA)))) (n J1j (n J2n (n J4v (f J9E) (f JDU)) (n J76 (f JBM) (f JFc))) (n J3r (n J62 (f JAI) (f JEY)) (n J8A (f JCQ) z)))) (n J0v (n J1T (n J2V (n J4f (f J8y) (f JDE)) (n J6q (f JB6) (f JFM))) (n (J3b P) (n J5j (f JA2) (f JEI)) (n J7u (f JCA) z))) (n J1z (n J33 (n J5D (f J9U) (f JDk)) (n J7M (f JBc) (f JFs))) (n J47 (n J6I (f JAY) (f JEo)) (n J8Q (f JCi) z))))) (n J0U (n J0k (n J1L (n J2N (n J4X (f J8o) (f JD6)) (n J6i (f JAy) (f (JFE P)))) (n (J3R P) (n J5b (f J9u) (f JE8)) (n J7m (f JC2) z))) (n J1r (n J2v (n J53 (f J9M) (f JDc)) (n J7E (f JBU) (f JFk))) (n J3z (n J6A (f JAQ) (f JEg)) (n J8I (f JCY) z)))) (n J13 (n J1b (n J2d (n J4n (f J96) (f JDM)) (n J6y (f JBE) (f JFU))) (n J3j (n J5u (f JAA) (f JEQ)) (n J82 (f JCI) z))) (n J27 (n J3B (n J5L (f J9c) (f JDs)) (n J7U (f JBk) (f JG2))) (n J4F (n J6Q (f JAg) (f JEy)) (n J8Y (f JCq) z))))))) (n J05 (n J09 (n J0K (n J0a (n J1B (n J2D (n J4N (f J8e) (f JCw)) (n J6W (f JAm) (f JF4))) (n J3H (n J5R (f J9i) (f JDy)) (n J7a (f JBq) (f JG8)))) (n J1h (n J2l (n J4t (f J9C) (f JDS)) (n J74 (f JBK) (f JFa))) (n (J3p P) (n J60 (f JAG) (f JEW)) (n J88 (f JCO) z)))) (n J0q (n J1R (n J2T (n J4d (f J8w) (f JDC)) (n J6o (f JB4) (f JFK))) (n J3Z (n J5o (f JA0) (f JEG)) (n J7s (f JC8) z))) (n J1x (n J31 (n J59 (f J9S) (f JDi)) (n J7K (f JBa) (f JFq))) (n J45 (n J6G (f JAW) (f JEm)) (n J8O (f JCg) z))))) (n J0S (n J0i (n J1J (n J2L (n J4V (f J8m) (f JD4)) (n J6e (f JAu) (f JFC))) (n J3P (n J5Z (f J9s) (f JE6)) (n J7k (f JC0) z))) (n J1p (n J2t (n J51 (f J9K) (f JDa)) (n J7C (f JBS) (f JFi))) (n (J3x P) (n J68 (f JAO) (f JEe)) (n J8G (f JCW) z)))) (n J11 (n J1Z (n J2b (n J4l (f J94) (f JDK)) (n J6w (f JBC) (f JFS))) (n J3h (n J5s (f JA8) (f JEO)) (n J80 (f JCG) z))) (n J25 (n J39 (n J5J (f J9a) (f JDq)) (n J7S (f JBi) (f JG0))) (n J4D (n J6O (f JAe) (f (JEw P))) (n J8W (f JCo) z)))))) (n J0D (n J0O (n J0e (n J1F (n J2H (n J4R (f J8i) (f JD0)) (n J6a (f JAq) (f JF8))) (n J3L (n J5V (f J9o) (f JE2)) (n J7e (f JBu) (f JGC)))) (n J1l (n J2p (n J4x (f J9G) (f JDW)) (n J78 (f JBO) (f JFe))) (n J3t (n J64 (f JAK) (f JEa)) (n J8C (f JCS) z)))) (n J0x (n J1V (n J2X (n J4h (f J90) (f JDG)) (n J6s (f JB8) (f JFO))) (n J3d (n J5l (f JA4) (f JEK)) (n J7w (f JCC) z))) (n J21 (n J35 (n J5F (f J9W) (f JDm)) (n J7O (f JBe) (f JFw))) (n J49 (n J6K (f JAa) (f JEq)) (n J8S (f JCk) z))))) (n J0W (n (J0m P) (n J1N (n J2P (n J4Z (f J8q) (f JD8)) (n J6k (f JB0) (f JFG))) (n J3T (n J5d (f J9w) (f JEA)) (n J7o (f (JC4 P)) z))) (n J1t (n J2x (n J55 (f J9O) (f JDe)) (n J7G (f JBW) (f JFm))) (n J41 (n J6C (f JAS) (f JEi)) (n J8K (f JCa) z)))) (n J15 (n J1d (n J2f (n J4p (f J98) (f JDO)) (n J70 (f JBG) (f JFW))) (n J3l (n J5w (f JAC) (f JES)) (n J84 (f JCK) z))) (n J29 (n J3D (n J5N (f J9e) (f JDu)) (n J7W (f JBm) (f JG4))) (n J4J (n J6S (f JAi) (f JF0)) (n J8a (f JCs) z)))))))) (n (J0F P) (n J04 (n J08 (n J0J (n J0Z (n (J1A P) (n J2C (n J4M (f J8d) (f JCv)) (n J6V (f JAl) (f JF3))) (n J3G (n J5Q (f J9h) (f JDx)) (n J7Z (f JBp) (f JG7)))) (n J1g (n J2k (n J4s (f J9B) (f JDR)) (n J73 (f JBJ) (f JFZ))) (n J3o (n J5z (f JAF) (f JEV)) (n J87 (f JCN) z)))) (n J0p (n J1Q (n J2S (n J4c (f J8v) (f JDB)) (n J6n (f JB3) (f JFJ))) (n J3W (n (J5g P) (f J9z) (f JEF)) (n (J7r P) (f JC7) z))) (n J1w (n J30 (n J58 (f J9R) (f JDh)) (n J7J (f JBZ) (f JFp))) (n J44 (n J6F (f JAV) (f JEl)) (n J8N (f JCf) z))))) (n (J0R P) (n J0h (n J1I (n J2K (n J4U (f J8l) (f JD3)) (n J6d (f JAt) (f JFB))) (n J3O (n J5Y (f J9r) (f JE5)) (n J7j (f (JBz P)) z))) (n J1o (n J2s (n J50 (f J9J) (f JDZ)) (n J7B (f JBR) (f JFh))) (n J3w (n J67 (f JAN) (f JEd)) (n J8F (f JCV) z)))) (n J10 (n J1Y (n J2a (n J4k (f J93) (f JDJ)) (n J6v (f JBB) (f JFR))) (n J3g (n (J5r P) (f JA7) (f JEN)) (n J7z (f JCF) z))) (n J24 (n J38 (n J5I (f J9Z) (f JDp)) (n J7R (f JBh) (f JFz))) (n J4C (n J6N (f JAd) (f JEv)) (n J8V (f JCn) z)))))) (n JFv (n J0N (n J0d (n J1E (n J2G (n J4Q (f J8h) (f JCz)) (n J6Z (f JAp) (f JF7))) (n J3K (n J5U (f J9l) (f JE1)) (n J7d (f JBt) (f JGB)))) (n J1k (n J2o (n J4w (f J9F) (f JDV)) (n J77 (f JBN) (f JFd))) (n J3s (n J63 (f JAJ) (f JEZ)) (n J8B (f JCR) z)))) (n (J0w P) (n J1U (n J2W (n J4g (f J8z) (f JDF)) (n J6r (f JB7) (f JFN))) (n J3c (n J5k (f (JA3 P)) (f JEJ)) (n J7v (f JCB) z))) (n J20 (n J34 (n (J5E P) (f J9V) (f JDl)) (n J7N (f JBd) (f JFt))) (n J48 (n J6J (f JAZ) (f JEp)) (n J8R (f JCj) z))))) (n J0V (n J0l (n J1M (n J2O (n J4Y (f J8p) (f JD7)) (n (J6j P) (f JAz) (f JFF))) (n J3S (n J5c (f J9v) (f JE9)) (n J7n (f JC3) z))) (n J1s (n J2w (n J54 (f J9N) (f JDd)) (n J7F (f JBV) (f JFl))) (n J40 (n J6B (f JAR) (f JEh)) (n J8J (f JCZ) z)))) (n J14 (n J1c (n J2e (n J4o (f J97) (f JDN)) (n J6z (f JBF) (f JFV))) (n J3k (n J5v (f JAB) (f JER)) (n J83 (f JCJ) z))) (n J28 (n J3C (n J5M (f J9d) (f JDt)) (n J7V (f JBl) (f JG3))) (n J4I (n J6R (f JAh) (f JEz)) (n J8Z (f JCr) z))))))) (n J06 (n J0A (n J0L (n J0b (n J1C (n J2E (n J4O (f J8f) (f JCx)) (n J6X (f JAn) (f JF5))) (n J3I (n J5S (f J9j) (f JDz)) (n J7b (f JBr) (f JG9)))) (n J1i (n J2m (n J4u (f J9D) (f JDT)) (n J75 (f JBL) (f JFb))) (n J3q (n J61 (f JAH) (f JEX)) (n J89 (f (JCP P)) z)))) (n J0u (n J1S (n J2U (n (J4e P) (f J8x) (f JDD)) (n J6p (f JB5) (f JFL))) (n J3a (n J5i (f JA1) (f JEH)) (n J7t (f JC9) z))) (n J1y (n J32 (n J5C (f J9T) (f JDj)) (n J7L (f JBb) (f JFr))) (n J46 (n J6H (f JAX) (f JEn)) (n J8P (f JCh) z))))) (n J0T (n J0j (n J1K (n J2M (n J4W (f J8n) (f JD5)) (n J6h (f JAx) (f JFD))) (n J3Q (n J5a (f J9t) (f JE7)) (n J7l (f JC1) z))) (n J1q (n J2u (n J52 (f J9L) (f JDb)) (n J7D (f JBT) (f JFj))) (n J3y (n J69 (f JAP) (f JEf)) (n J8H (f JCX) z)))) (n (J12 P) (n J1a (n (J2c P) (n J4m (f J95) (f JDL)) (n J6x (f JBD) (f JFT))) (n J3i (n J5t (f JA9) (f JEP)) (n J81 (f JCH) z))) (n J26 (n J3A (n J5K (f J9b) (f JDr)) (n (J7T P) (f JBj) (f JG1))) (n J4E (n J6P (f JAf) (f JEx)) (n J8X (f JCp) z)))))) (n J0E (n J0P (n J0f (n J1G (n J2I (n J4S (f J8j) (f JD1)) (n (J6b P) (f JAr) (f JF9))) (n J3M (n J5W (f J9p) (f JE3)) (n J7f (f JBv) (f JGD)))) (n J1m (n J2q (n J4y (f J9H) (f JDX)) (n J79 (f JBP) (f JFf))) (n J3u (n J65 (f JAL) (f JEb)) (n J8D (f JCT) z)))) (n J0y (n J1W (n J2Y (n J4i (f J91) (f JDH)) (n J6t (f JB9) (f JFP))) (n J3e (n J5p (f JA5) (f JEL)) (n J7x (f JCD) z))) (n J22 (n J36 (n J5G (f J9X) (f JDn)) (n J7P (f JBf) (f JFx))) (n (J4A P) (n J6L (f JAb) (f JEr)) (n J8T (f JCl) z))))) (n J0X (n J0t (n J1O (n J2Q (n J4a (f J8r) (f JD9)) (n J6l (f JB1) (f JFH))) (n J3U (n J5e (f J9x) (f JEB)) (n J7p (f JC5) z))) (n J1u (n J2y (n J56 (f J9P) (f JDf)) (n J7H (f JBX) (f JFn))) (n J42 (n J6D (f JAT) (f JEj)) (n J8L (f JCb) z)))) (n J18 (n J1e (n J2g (n J4q (f J99) (f JDP)) (n J71 (f JBH) (f JFX))) (n J3m (n J5x (f JAD) (f JET)) (n J85 (f JCL) z))) (n J2A (n (J3E P) (n J5O (f J9f) (f JDv)) (n J7X (f JBn) (f JG5))) (n (J4K P) (n J6T (f JAj) (f JF1)) (n J8b (f JCt) z)))))))))
noncomputable def S18 (w : World) (os : OsState) : SharedT := ⟨tr18 w.params, 968, {}, #[], {}, 1603, os⟩
noncomputable def topEnv : Env := { scope := prg.main.scope, locals := mainNs, globals := mainNs, cells := [], code := .ref 13, frame := some 14 }
noncomputable def topB : List Stmt := behindTheImports prg
noncomputable def topC : Code := .body topB topEnv
noncomputable def fP : Pos := ⟨0, 0, 0, 0⟩
noncomputable def annV : Option Value := some (.ref 6)
theorem te1 : @segRunT = @PySem.W.Fast.tw10110043849684766642 := PySem.W.Fast.te10110043849684766642
theorem te2 : @treeTable = @PySem.W.Fast.tw14364793385576792824 := PySem.W.Fast.te14364793385576792824
theorem te3 : @execs = @PySem.W.Fast.tw12563942051412417395 := PySem.W.Fast.te12563942051412417395
theorem te4 : @topGo = @PySem.W.Fast.tw15667345088766844465 := PySem.W.Fast.te15667345088766844465
theorem te5 : @segRun = @PySem.W.Fast.tw14374325043358763698 := PySem.W.Fast.te14374325043358763698
theorem te6 : @topRun = @PySem.W.Fast.tw14082659384304107361 := PySem.W.Fast.te14082659384304107361
theorem te7 : @openSeen = @PySem.W.Fast.tw4187177175401517315 := PySem.W.Fast.te4187177175401517315
theorem te8 : @Heap.nsMap = @PySem.W.Fast.tw8920871248978507458 := PySem.W.Fast.te8920871248978507458
theorem te10 : @denote = @PySem.W.Fast.tw11892475500146522536 := PySem.W.Fast.te11892475500146522536
theorem pre_ (w : World) (os : OsState) : topGo treeTable prg w 11 annV 12 ⟨boot_heap w.params, Array.mk [], boot_drawn, boot_toks, os⟩ (topStub prg) = some ((S0 w os).abs, ⟨denote treeTable topC, topC, fP, [topFrame fP]⟩) := by
  rw [te4, te10, te2]; kernel_rfl
theorem block_ (w : World) (os : OsState) : segRun treeTable prg w 11 annV 1 1 (S0 w os).abs (blockOf topB topEnv topC fP [topFrame fP]) = some (.next, (S0 w os).abs, topC, fP) := by
  rw [te5, te2]; kernel_rfl
theorem pc0 (w : World) (os : OsState) : segRunT treeTable prg w 11 annV 1 307 (S0 w os) ⟨(execs ((topB.drop 0).take 3) topEnv).wrap doneF deadEnd id id, topC, ⟨0, 0, 0, 0⟩, [topFrame fP]⟩ = some (.next, S1 w os, topC, ⟨5, 0, 13, 35⟩) := by
  rw [te1, te2, te3]; kernel_rfl
theorem pc1 (w : World) (os : OsState) : segRunT treeTable prg w 11 annV 1 223 (S1 w os) ⟨(execs ((topB.drop 3).take 2) topEnv).wrap doneF deadEnd id id, topC, ⟨5, 0, 13, 35⟩, [topFrame fP]⟩ = some (.next, S2 w os, topC, ⟨16, 0, 16, 8⟩) := by
  rw [te1, te2, te3]; kernel_rfl
theorem pc2 (w : World) (os : OsState) : segRunT treeTable prg w 11 annV 1 582 (S2 w os) ⟨(execs ((topB.drop 5).take 1) topEnv).wrap doneF deadEnd id id, topC, ⟨16, 0, 16, 8⟩, [topFrame fP]⟩ = some (.next, S3 w os, topC, ⟨17, 0, 65, 16⟩) := by
  rw [te1, te2, te3]; kernel_rfl
theorem pc3 (w : World) (os : OsState) : segRunT treeTable prg w 11 annV 1 361 (S3 w os) ⟨(execs ((topB.drop 6).take 7) topEnv).wrap doneF deadEnd id id, topC, ⟨17, 0, 65, 16⟩, [topFrame fP]⟩ = some (.next, S4 w os, topC, ⟨85, 0, 88, 24⟩) := by
  rw [te1, te2, te3]; kernel_rfl
theorem pc4 (w : World) (os : OsState) : segRunT treeTable prg w 11 annV 1 450 (S4 w os) ⟨(execs ((topB.drop 13).take 2) topEnv).wrap doneF deadEnd id id, topC, ⟨85, 0, 88, 24⟩, [topFrame fP]⟩ = some (.next, S5 w os, topC, ⟨94, 0, 98, 28⟩) := by
  rw [te1, te2, te3]; kernel_rfl
theorem pc5 (w : World) (os : OsState) : segRunT treeTable prg w 11 annV 1 380 (S5 w os) ⟨(execs ((topB.drop 15).take 6) topEnv).wrap doneF deadEnd id id, topC, ⟨94, 0, 98, 28⟩, [topFrame fP]⟩ = some (.next, S6 w os, topC, ⟨154, 0, 154, 12⟩) := by
  rw [te1, te2, te3]; kernel_rfl
theorem pc6 (w : World) (os : OsState) : segRunT treeTable prg w 11 annV 1 295 (S6 w os) ⟨(execs ((topB.drop 21).take 1) topEnv).wrap doneF deadEnd id id, topC, ⟨154, 0, 154, 12⟩, [topFrame fP]⟩ = some (.next, S7 w os, topC, ⟨155, 0, 173, 40⟩) := by
  rw [te1, te2, te3]; kernel_rfl
theorem pc7 (w : World) (os : OsState) : segRunT treeTable prg w 11 annV 1 410 (S7 w os) ⟨(execs ((topB.drop 22).take 2) topEnv).wrap doneF deadEnd id id, topC, ⟨155, 0, 173, 40⟩, [topFrame fP]⟩ = some (.next, S8 w os, topC, ⟨194, 0, 194, 8⟩) := by
  rw [te1, te2, te3]; kernel_rfl
theorem pc8 (w : World) (os : OsState) : segRunT treeTable prg w 11 annV 1 426 (S8 w os) ⟨(execs ((topB.drop 24).take 2) topEnv).wrap doneF deadEnd id id, topC, ⟨194, 0, 194, 8⟩, [topFrame fP]⟩ = some (.next, S9 w os, topC, ⟨226, 0, 227, 35⟩) := by
  rw [te1, te2, te3]; kernel_rfl
theorem pc9 (w : World) (os : OsState) : segRunT treeTable prg w 11 annV 1 447 (S9 w os) ⟨(execs ((topB.drop 26).take 9) topEnv).wrap doneF deadEnd id id, topC, ⟨226, 0, 227, 35⟩, [topFrame fP]⟩ = some (.next, S10 w os, topC, ⟨251, 0, 258, 55⟩) := by
  rw [te1, te2, te3]; kernel_rfl
theorem pc10 (w : World) (os : OsState) : segRunT treeTable prg w 11 annV 1 261 (S10 w os) ⟨(execs ((topB.drop 35).take 9) topEnv).wrap doneF deadEnd id id, topC, ⟨251, 0, 258, 55⟩, [topFrame fP]⟩ = some (.next, S11 w os, topC, ⟨292, 0, 292, 8⟩) := by
  rw [te1, te2, te3]; kernel_rfl
theorem pc11 (w : World) (os : OsState) : segRunT treeTable prg w 11 annV 1 438 (S11 w os) ⟨(execs ((topB.drop 44).take 8) topEnv).wrap doneF deadEnd id id, topC, ⟨292, 0, 292, 8⟩, [topFrame fP]⟩ = some (.next, S12 w os, topC, ⟨335, 0, 339, 25⟩) := by
  rw [te1, te2, te3]; kernel_rfl
theorem pc12 (w : World) (os : OsState) : segRunT treeTable prg w 11 annV 1 427 (S12 w os) ⟨(execs ((topB.drop 52).take 20) topEnv).wrap doneF deadEnd id id, topC, ⟨335, 0, 339, 25⟩, [topFrame fP]⟩ = some (.next, S13 w os, topC, ⟨434, 0, 434, 10⟩) := by
  rw [te1, te2, te3]; kernel_rfl
theorem pc13 : ∀ (w : World) (os : OsState), segRunT treeTable prg w 11 annV 1 446 (S13 w os) ⟨(execs ((topB.drop 72).take 5) topEnv).wrap doneF deadEnd id id, topC, ⟨434, 0, 434, 10⟩, [topFrame fP]⟩ = some (.next, S14 w os, topC, ⟨457, 0, 463, 47⟩) :=
  byRow2 "special-get-raises" (P := fun w : World => ∀ os : OsState, segRunT treeTable prg w 11 annV 1 446 (S13 w os) ⟨(execs ((topB.drop 72).take 5) topEnv).wrap doneF deadEnd id id, topC, ⟨434, 0, 434, 10⟩, [topFrame fP]⟩ = some (.next, S14 w os, topC, ⟨457, 0, 463, 47⟩)) (by intro w os; rw [te1, te2, te3]; kernel_rfl) (by intro w os; rw [te1, te2, te3]; kernel_rfl)
theorem pc14 (w : World) (os : OsState) : segRunT treeTable prg w 11 annV 1 439 (S14 w os) ⟨(execs ((topB.drop 77).take 14) topEnv).wrap doneF deadEnd id id, topC, ⟨457, 0, 463, 47⟩, [topFrame fP]⟩ = some (.next, S15 w os, topC, ⟨589, 0, 602, 42⟩) := by
  rw [te1, te2, te3]; kernel_rfl
theorem pc15 (w : World) (os : OsState) : segRunT treeTable prg w 11 annV 1 206 (S15 w os) ⟨(execs ((topB.drop 91).take 7) topEnv).wrap doneF deadEnd id id, topC, ⟨589, 0, 602, 42⟩, [topFrame fP]⟩ = some (.next, S16 w os, topC, ⟨680, 0, 680, 8⟩) := by
  rw [te1, te2, te3]; kernel_rfl
theorem pc16 (w : World) (os : OsState) : segRunT treeTable prg w 11 annV 1 439 (S16 w os) ⟨(execs ((topB.drop 98).take 8) topEnv).wrap doneF deadEnd id id, topC, ⟨680, 0, 680, 8⟩, [topFrame fP]⟩ = some (.next, S17 w os, topC, ⟨718, 0, 721, 33⟩) := by
  rw [te1, te2, te3]; kernel_rfl
theorem pc17 (w : World) (os : OsState) : segRunT treeTable prg w 11 annV 1 95 (S17 w os) ⟨(execs ((topB.drop 106).take 3) topEnv).wrap doneF deadEnd id id, topC, ⟨718, 0, 721, 33⟩, [topFrame fP]⟩ = some (.next, S18 w os, topC, ⟨742, 0, 771, 108⟩) := by
  rw [te1, te2, te3]; kernel_rfl
theorem link {w : World} {a m N n : Nat} {s s' r : Shared} {c : Code} {pos p' : Pos} (h : segRun treeTable prg w 11 annV 1 n s ⟨(execs ((topB.drop a).take m) topEnv).wrap doneF deadEnd id id, c, pos, [topFrame fP]⟩ = some (.next, s', c, p'))
    (k : topRun treeTable prg w 11 annV N s' (restOf (topB.drop (a + m)) topEnv c p' [topFrame fP]) = some r) : topRun treeTable prg w 11 annV (n + N) s (restOf (topB.drop a) topEnv c pos [topFrame fP]) = some r := by
  have := piece_app (rest := topB.drop (a + m)) h k
  rwa [show (topB.drop a).take m ++ topB.drop (a + m) = topB.drop a from by rw [← List.drop_drop, List.take_append_drop]] at this
theorem fin_ (w : World) (os : OsState) : topRun treeTable prg w 11 annV 2 (S18 w os).abs (restOf (topB.drop 109) topEnv topC ⟨742, 0, 771, 108⟩ [topFrame fP]) = some (S18 w os).abs := by
  rw [te6]; kernel_rfl
theorem run_ (w : World) (os : OsState) : topRun treeTable prg w 11 annV (12 + (1 + (307 + (223 + (582 + (361 + (450 + (380 + (295 + (410 + (426 + (447 + (261 + (438 + (427 + (446 + (439 + (206 + (439 + (95 + 2)))))))))))))))))))) ⟨boot_heap w.params, Array.mk [], boot_drawn, boot_toks, os⟩ (topStub prg) = some (S18 w os).abs :=
  go_top (pre_ w os) (piece_block (b := topB) (block_ w os) (link (segRun_of (pc0 w os)) (link (segRun_of (pc1 w os)) (link (segRun_of (pc2 w os)) (link (segRun_of (pc3 w os)) (link (segRun_of (pc4 w os)) (link (segRun_of (pc5 w os)) (link (segRun_of (pc6 w os)) (link (segRun_of (pc7 w os)) (link (segRun_of (pc8 w os)) (link (segRun_of (pc9 w os)) (link (segRun_of (pc10 w os)) (link (segRun_of (pc11 w os)) (link (segRun_of (pc12 w os)) (link (segRun_of (pc13 w os)) (link (segRun_of (pc14 w os)) (link (segRun_of (pc15 w os)) (link (segRun_of (pc16 w os)) (link (segRun_of (pc17 w os)) (fin_ w os))))))))))))))))))))
theorem open_ : ∀ w : World, (fencedOpening treeTable prg w 14000).map (fun s => (s.heap, s.gens, s.drawn, s.toks)) = some (boot_heap w.params, Array.mk [], boot_drawn, boot_toks) :=
  boot_open (by kernel_rfl) (by kernel_rfl) (fun s => by kernel_rfl)
theorem size_ (w : World) : ((boot_heap w.params).isNs mainGlobals && (Array.mk [] : Array GenState).size == 0, (boot_heap w.params).objs.size, (boot_heap w.params).nsMap mainGlobals "__annotations__") = (true, 11, annV) := by
  rw [te8]; kernel_rfl
noncomputable def vw : Program := { prg with main := { prg.main with body := prg.main.body.drop 108 } }
noncomputable def loose : List Str := (prg.boundNames.filter fun n => !(n == Str.ofString "law"))
noncomputable def hp (P : Params) : Heap := absHeap (tr18 P) 968 {}
theorem looks_ (w : World) : (fun os => ((staticsOk (importedModules prg.main.body) (boot_heap w.params) (hp w.params) && namesBound prg (hp w.params) && gensDone ⟨hp w.params, #[], {}, 1603, os⟩ && laidKept (boot_heap w.params) (hp w.params)),
        openSeen vw loose (importedModules prg.main.body) (fun s => recOk [] s) true ⟨hp w.params, #[], {}, 1603, os⟩, (⟨hp w.params, #[], {}, 1603, os⟩ : Shared).heap)) = fun _ => (true, openGood vw loose, hp w.params) := by
  funext os
  refine congr (congrArg Prod.mk ?_) (congr (congrArg Prod.mk ?_) rfl)
  · as_aux_lemma => kernel_rfl
  · as_aux_lemma => rw [te7]; kernel_rfl
theorem left_ : LeftO prg vw loose (fun s => recOk [] s) (fun s => s.heap) (fun w => hp w.params) 14000 :=
  LeftO.of_pieces (H₀ := boot_heap) (H₁ := hp) (gs₀ := Array.mk []) (gs₁ := #[]) (d₀ := boot_drawn) (d₁ := {}) (k₀ := boot_toks) (k₁ := 1603) (m₀ := 11) (ann := annV) (M := 12 + (1 + (307 + (223 + (582 + (361 + (450 + (380 + (295 + (410 + (426 + (447 + (261 + (438 + (427 + (446 + (439 + (206 + (439 + (95 + 2)))))))))))))))))))) open_ size_ run_ (by kernel_rfl) looks_
noncomputable abbrev RL : OpenLaw := Challenge.rw_qd0133_01
theorem zw0 : TablesWhole.wSs TablesWhole.gather prg.main.scope ⟨prg.main.scope, [], [], [], none⟩ prg.main.scope prg.main.body = [] := by
  rw [Fast.te16421684217811934046, Fast.te12652042256554560961]; kernel_rfl
theorem zw1 : TablesWhole.wSs TablesWhole.holds prg.main.scope ⟨prg.main.scope, [], [], [], none⟩ prg.main.scope prg.main.body = true := by
  unfold TablesWhole.holds
  rw [Fast.te16421684217811934046, Fast.te15985051520779696433]; kernel_rfl
theorem zw2 (n : Str) (h : readsOut prg prg.main.body n = false) (l : List Str) : (n :: l).filter (readsOut RL.row.prog RL.row.prog.main.body) = l.filter (readsOut RL.row.prog RL.row.prog.main.body) := List.filter_cons_of_neg (by rw [show readsOut RL.row.prog RL.row.prog.main.body n = false from h]; decide)
theorem zwa : readsOut prg prg.main.body "vars" = false := by rw [Fast.te13343964577679436407]; kernel_rfl
theorem zwb : readsOut prg prg.main.body "dir" = false := by rw [Fast.te13343964577679436407]; kernel_rfl
theorem zwc : readsOut prg prg.main.body "locals" = false := by rw [Fast.te13343964577679436407]; kernel_rfl
theorem zw3 : namesResolve RL.row.prog = true := by rw [Fast.te8377067652309620493]; kernel_rfl
theorem zw4 : noRoadLSs { strict := !(importedModules RL.row.prog.main.body).all cThrough.contains, foot := none, bare := (["vars", "dir", "locals"] : List Str).filter (readsOut RL.row.prog RL.row.prog.main.body) } RL.row.prog.main.body = true := by
  rw [zw2 _ zwa, zw2 _ zwb, zw2 _ zwc, Fast.te8326940854005059898]; kernel_rfl
theorem zw5 : namesMeet RL.row.prog RL.row.prog.main.body (fun _ n => attrL n) = true := by rw [Fast.te17119622794617984870, Fast.te17868728402115742887]; kernel_rfl
theorem zw6 : namesMeet RL.prog RL.above (fun _ n => !RL.own.contains n) = true := by rw [Fast.te17119622794617984870, Fast.te10792542408131684335, Fast.te3471404346716756564]; kernel_rfl
theorem zw7 : (RL.bound'.all fun n => !builtinNamed n || RL.about == [n] || !RL.reads n) = true := by rw [Fast.te797321630700447069, Fast.te6984425678791042302]; kernel_rfl
theorem said : OpenLaw.wellSaid Challenge.rw_qd0133_01 = true := by
  unfold OpenLaw.wellSaid OpenRow.wellSaid OpenRow.partSaid looksOpen
  repeat' with_reducible apply look_both
  all_goals with_reducible first | exact zw3 | exact zw4 | exact zw5 | exact zw6 | exact zw7 | kernel_rfl
noncomputable def lawRec : DefRec := ⟨Str.ofString "law", fA [108], fB [108], fS [108], ⟨742, 0, 771, 108⟩⟩
def Stands (w : World) (h : Heap) : Prop := ∀ b o, (hp w.params).get? b = some o → h.get? b = some o
theorem hdef_ : defOf vw PySem.Challenge.rw_qd0133_01.row.name = some (lawRec, []) := by kernel_rfl
theorem hthe_ : PySem.Challenge.rw_qd0133_01.row.prog.theDef PySem.Challenge.rw_qd0133_01.row.name = some (lawRec.params, lawRec.body, lawRec.scope) := by kernel_rfl
theorem hkw_ : kwWritten? lawRec.params.kwonlyargs lawRec.params.kw_defaults = some [] := by kernel_rfl
theorem ok_ : (chainsOk vw && opensWell PySem.Challenge.rw_qd0133_01.row.prog && (frees PySem.Challenge.rw_qd0133_01.row.toRowW && PySem.Challenge.rw_qd0133_01.row.within.isEmpty)) = true := by kernel_rfl
theorem bare_ : PySem.Challenge.rw_qd0133_01.row.prog.bare := ⟨rfl, rfl, rfl, rfl, rfl, by show TablesWhole.wProgram TablesWhole.holds prg = true; unfold TablesWhole.wProgram TablesWhole.wModule; dsimp only; rw [zw0, zw1]; kernel_rfl⟩
theorem head (walk : WalkO vw loose (fun _ _ => True) Stands PySem.Challenge.rw_qd0133_01.row.toRowW lawRec [] fun f vs => PySem.call f vs) : PySem.Challenge.rw_qd0133_01.Holds :=
  holds_law said fun k1 => holds_open (r := PySem.Challenge.rw_qd0133_01.row) (q := vw) (loose := loose) (Xt := fun s => recOk [] s) (XP := fun _ _ => True) (Yf := fun s => s.heap) (Ya := fun w => hp w.params) (YP := Stands) (d := lawRec) (kwd := []) (N := 14000)
    left_ (fun w s e b o h => by rw [← e] at h; exact h) (fun w h h' y k b o e => k b o (y b o e)) (fun _ _ => trivial) (fun _ _ _ _ _ => trivial)
    hdef_ hthe_ hkw_ (fun s e => recFacts_of e) rfl k1 ok_ bare_ (by w_witness2) walk
end
open PySem PySem.W PySem.Spec PySem.Calls PyProof.Rows
theorem hide2 {α β : Type} {G P : α → β → Prop} (k : ∀ H : α → β → Prop, (∀ a b, G a b → H a b) → ∀ a b, P a b → H a b) : ∀ a b, P a b → G a b := k G fun _ _ h => h
theorem hide1 {α : Type} {G P : α → Prop} (k : ∀ H : α → Prop, (∀ a, G a → H a) → ∀ a, P a → H a) : ∀ a, P a → G a := k G fun _ h => h
theorem hide3 {α β γ : Type} {G : α → β → γ → Prop} {P : α → γ → Prop} (k : ∀ H : α → β → γ → Prop, (∀ a b c, G a b c → H a b c) → ∀ a b c, P a c → H a b c) : ∀ a b c, P a c → G a b c := k G fun _ _ _ h => h
theorem hideT {A B C D T : Type} {h1 : A → Prop} {P : A → B → Prop} {J : A → C → D → Prop} {G : A → B → C → D → T → Prop} (k : ∀ H : A → B → C → D → T → Prop, (∀ i v l n t, G i v l n t → H i v l n t) → ∀ i v l n t, h1 i → P i v → J i l n → H i v l n t) : ∀ i v l n t, h1 i → P i v → J i l n → G i v l n t := k G fun _ _ _ _ _ h => h
theorem hideC {A B C D T U : Type} {h1 : A → Prop} {P : A → B → Prop} {J : A → C → D → Prop} {G : A → B → C → D → T → U → Prop} (k : ∀ H : A → B → C → D → T → U → Prop, (∀ i v l n t c, G i v l n t c → H i v l n t c) → ∀ i v l n t c, h1 i → P i v → J i l n → H i v l n t c) : ∀ i v l n t c, h1 i → P i v → J i l n → G i v l n t c := k G fun _ _ _ _ _ _ h => h
theorem hideP {G : Prop} (k : ∀ H : Prop, (G → H) → H) : G := k G fun h => h
theorem hL0 : ∀ (vs : List Value) (n : List (Addr × Obj)), vs = [] ∧ n = [] → vs.length ≤ 1000 := by rintro _ _ ⟨rfl, rfl⟩; decide
theorem hR1 {P : Value → List (Addr × Obj) → Prop} : ∀ (vs : List Value) (n : List (Addr × Obj)), (∃ v n₁ u n₂, P v n₁ ∧ (u = [] ∧ n₂ = []) ∧ vs = v :: u ∧ n = n₂ ++ n₁) → ∃ v0, vs = [v0] := by
  rintro _ _ ⟨_, _, _, _, -, ⟨rfl, rfl⟩, rfl, rfl⟩; exact ⟨_, rfl⟩
theorem hL1 {P : Value → List (Addr × Obj) → Prop} : ∀ (vs : List Value) (n : List (Addr × Obj)), (∃ v n₁ u n₂, P v n₁ ∧ (u = [] ∧ n₂ = []) ∧ vs = v :: u ∧ n = n₂ ++ n₁) → vs.length ≤ 1000 := fun vs n h => by
  obtain ⟨v, rfl⟩ := hR1 vs n h; simp
theorem hR2 {P : Value → List (Addr × Obj) → Prop} {R : Value → Value → List (Addr × Obj) → Prop} : ∀ (vs : List Value) (n : List (Addr × Obj)), (∃ v n₁ u n₂, P v n₁ ∧ (∃ v' n₃ u' n₄, R v v' n₃ ∧ (u' = [] ∧ n₄ = []) ∧ u = v' :: u' ∧ n₂ = n₄ ++ n₃) ∧ vs = v :: u ∧ n = n₂ ++ n₁) → ∃ v0 v1, vs = [v0, v1] := by
  rintro _ _ ⟨_, _, _, _, -, ⟨_, _, _, _, -, ⟨rfl, rfl⟩, rfl, rfl⟩, rfl, rfl⟩; exact ⟨_, _, rfl⟩
theorem hL2 {P : Value → List (Addr × Obj) → Prop} {R : Value → Value → List (Addr × Obj) → Prop} : ∀ (vs : List Value) (n : List (Addr × Obj)), (∃ v n₁ u n₂, P v n₁ ∧ (∃ v' n₃ u' n₄, R v v' n₃ ∧ (u' = [] ∧ n₄ = []) ∧ u = v' :: u' ∧ n₂ = n₄ ++ n₃) ∧ vs = v :: u ∧ n = n₂ ++ n₁) → vs.length ≤ 1000 := fun vs n h => by
  obtain ⟨v, v', rfl⟩ := hR2 vs n h; simp
local macro_rules
  | `(tactic| walk_at "h") => `(tactic| refine hideP fun _ u9 => ?_)
  | `(tactic| walk_at "u") => `(tactic| (refine u9 ?_; clear u9))
noncomputable def KL (P : Params) : Frag := [(nat_lit 3, (JFu P)), (nat_lit 0, (J00 P)), (nat_lit 2, (J0F P)), (nat_lit 180, J34), (nat_lit 179, J33), (nat_lit 454, J7f), (nat_lit 453, J7e), (nat_lit 608, JAF), (nat_lit 607, JAE), (nat_lit 615, JAM), (nat_lit 614, JAL), (nat_lit 623, JAU), (nat_lit 616, JAN), (nat_lit 622, JAT), (nat_lit 630, JAb), (nat_lit 629, JAa), (nat_lit 642, JAn), (nat_lit 641, JAm), (nat_lit 702, JBn), (nat_lit 703, JBo), (nat_lit 704, JBp), (nat_lit 705, JBq), (nat_lit 706, JBr), (nat_lit 707, JBs), (nat_lit 708, JBt), (nat_lit 709, JBu), (nat_lit 710, JBv), (nat_lit 711, JBw), (nat_lit 750, JCb), (nat_lit 749, JCa), (nat_lit 757, JCk), (nat_lit 756, JCj), (nat_lit 764, JCr), (nat_lit 763, JCq), (nat_lit 771, JCy), (nat_lit 770, JCx), (nat_lit 778, JD5), (nat_lit 777, JD4), (nat_lit 799, JDQ), (nat_lit 798, JDP), (nat_lit 867, JEY), (nat_lit 866, JEX), (nat_lit 872, JEd), (nat_lit 871, JEc), (nat_lit 879, JEk), (nat_lit 878, JEj), (nat_lit 886, JEr), (nat_lit 885, JEq), (nat_lit 917, JFO), (nat_lit 916, JFN), (nat_lit 924, JFV), (nat_lit 923, JFU), (nat_lit 929, JFa), (nat_lit 928, JFZ), (nat_lit 936, JFh), (nat_lit 935, JFg), (nat_lit 943, JFo), (nat_lit 942, JFn), (nat_lit 948, JFt), (nat_lit 947, JFs), (nat_lit 955, JG2), (nat_lit 954, JG1), (nat_lit 962, JG9), (nat_lit 961, JG8), (nat_lit 967, JGE), (nat_lit 966, JGD), (nat_lit 46, J0t), (nat_lit 45, (J0m P)), (nat_lit 36, J0d), (nat_lit 29, J0W), (nat_lit 35, J0c), (nat_lit 59, J13), (nat_lit 58, (J12 P)), (nat_lit 155, J2d), (nat_lit 154, (J2c P)), (nat_lit 75, J1L), (nat_lit 74, J1K), (nat_lit 204, J3S), (nat_lit 203, (J3R P)), (nat_lit 201, J3P), (nat_lit 200, J3O), (nat_lit 226, J3q), (nat_lit 225, (J3p P)), (nat_lit 223, J3n), (nat_lit 216, J3g), (nat_lit 222, J3m), (nat_lit 247, J4B), (nat_lit 246, (J4A P)), (nat_lit 244, J48), (nat_lit 243, J47), (nat_lit 275, J4f), (nat_lit 274, (J4e P)), (nat_lit 265, J4V), (nat_lit 264, J4U), (nat_lit 272, J4c), (nat_lit 271, J4b), (nat_lit 337, J5o), (nat_lit 336, (J5g P)), (nat_lit 320, J5Q), (nat_lit 313, J5J), (nat_lit 319, J5P), (nat_lit 327, J5X), (nat_lit 326, J5W), (nat_lit 334, J5e), (nat_lit 333, J5d), (nat_lit 391, J6c), (nat_lit 390, (J6b P)), (nat_lit 355, J62), (nat_lit 354, J61), (nat_lit 443, J7U), (nat_lit 442, (J7T P)), (nat_lit 407, J6u), (nat_lit 406, J6t), (nat_lit 480, J87), (nat_lit 479, (J86 P)), (nat_lit 477, J84), (nat_lit 470, J7x), (nat_lit 476, J83), (nat_lit 597, JA4), (nat_lit 596, (JA3 P)), (nat_lit 594, JA1), (nat_lit 593, JA0), (nat_lit 739, JCQ), (nat_lit 738, (JCP P)), (nat_lit 729, JCG), (nat_lit 722, JC9), (nat_lit 728, JCF), (nat_lit 908, JFF), (nat_lit 907, (JFE P)), (nat_lit 900, JF7), (nat_lit 899, JF6)]
noncomputable def KA : List Addr := [3, 0, 2, 180, 179, 454, 453, 608, 607, 615, 614, 623, 616, 622, 630, 629, 642, 641, 702, 703, 704, 705, 706, 707, 708, 709, 710, 711, 750, 749, 757, 756, 764, 763, 771, 770, 778, 777, 799, 798, 867, 866, 872, 871, 879, 878, 886, 885, 917, 916, 924, 923, 929, 928, 936, 935, 943, 942, 948, 947, 955, 954, 962, 961, 967, 966, 46, 45, 36, 29, 35, 59, 58, 155, 154, 75, 74, 204, 203, 201, 200, 226, 225, 223, 216, 222, 247, 246, 244, 243, 275, 274, 265, 264, 272, 271, 337, 336, 320, 313, 319, 327, 326, 334, 333, 391, 390, 355, 354, 443, 442, 407, 406, 480, 479, 477, 470, 476, 597, 596, 594, 593, 739, 738, 729, 722, 728, 908, 907, 900, 899]
theorem kl_hp (P : Params) : (KL P).In (hp P) := Frag.in_of (as := KA) (by kernel_rfl) (by kernel_rfl)
def SB (w : World) (h : Heap) : Prop := (KL w.params).In h
theorem kl_in {w : World} {h : Heap} (St : SB w h) : (KL w.params).In h := St
theorem sb_of {w : World} {h : Heap} (St : Stands w h) : SB w h := (kl_hp w.params).keeps St
structure G where
  w : World
  A : Around
  s₀ : Shared
  g : Heap
  L : Addr
  outer : List Env
  base : Heap
  env : Env
noncomputable def G.fe (Γ : G) : Env := match Γ.A.frames with | some (e :: _) => e | _ => Γ.env
structure G.Ok (Γ : G) : Prop where
  hA : Γ.A.frames = some (Γ.fe :: Γ.outer)
  hh : Γ.A.handled = none
  hd : Γ.A.depth < 600
  hu : Γ.A.units < 9000
  fr : Γ.fe.frame = some Γ.L
  kf : Γ.fe.scope.kind = .function
  own : Γ.env.locals = Γ.L → Γ.fe = Γ.env
  kd : Γ.env.scope.kind = .function
  gl : Γ.env.globals = mainGlobals
  bi : Γ.env.builtins = builtinsNs
  bs : Γ.base.StaysIn Γ.g
  bf : Γ.g.FunFrames Γ.base Γ.outer
  st : SB Γ.w Γ.g
theorem G.Ok.fn {Γ : G} {A : Around} (hA : A.frames = some Γ.outer) (eA : Γ.A = A.deeper Γ.env) (hh : Γ.A.handled = none) (hd : Γ.A.depth < 600) (hu : Γ.A.units < 9000) (fr : Γ.env.frame = some Γ.L) (kd : Γ.env.scope.kind = .function) (gl : Γ.env.globals = mainGlobals) (bi : Γ.env.builtins = builtinsNs)
    (bs : Γ.base.StaysIn Γ.g) (bf : Γ.g.FunFrames Γ.base Γ.outer) (st : SB Γ.w Γ.g) : Γ.Ok := by
  have h : Γ.A.frames = some (Γ.env :: Γ.outer) := eA ▸ Around.frames_deeper hA
  have e : Γ.fe = Γ.env := by unfold G.fe; rw [h]
  exact ⟨by rw [e]; exact h, hh, hd, hu, by rw [e]; exact fr, by rw [e]; exact kd, fun _ => e, kd, gl, bi, bs, bf, st⟩
structure Cx (Γ : G) (l : List (Str × Value)) (news : List (Addr × Obj)) (s : Shared) : Prop where
  ok : Γ.Ok
  fr : ∃ m, Fr Γ.g Γ.L s.heap m ∧ ∀ p ∈ l, m p.1 = some p.2
  nw : News Γ.g Γ.L s.heap news
  nd : (news.map (·.1)).Nodup
  gens : s.gens = Γ.s₀.gens
  drawn : s.drawn = Γ.s₀.drawn
  os : s.os = Γ.s₀.os
section
variable {Γ : G} {l l' : List (Str × Value)} {news news' : List (Addr × Obj)} {s : Shared}
theorem Cx.keep (C : Cx Γ l news s) {b : Addr} {o : Obj} (h : Γ.g.get? b = some o) : s.heap.get? b = some o := let ⟨_, F, _⟩ := C.fr; F.keep b o h
theorem Cx.obj (C : Cx Γ l news s) {b : Addr} {o : Obj} (h : (b, o) ∈ news) : s.heap.get? b = some o := (C.nw _ h).1
theorem Cx.stands (C : Cx Γ l news s) : SB Γ.w s.heap := fun b o h => C.keep (C.ok.st b o h)
theorem Cx.k (C : Cx Γ l news s) : (KL Γ.w.params).In s.heap := kl_in C.stands
theorem Cx.k0 (C : Cx Γ l news s) : (KL Γ.w.params).In Γ.g := kl_in C.ok.st
theorem Cx.tok (C : Cx Γ l news s) (n : Nat) : Cx Γ l news { s with toks := n } := ⟨C.ok, C.fr, C.nw, C.nd, C.gens, C.drawn, C.os⟩
theorem Cx.weak (C : Cx Γ l news s) (h : ∀ p ∈ l', p ∈ l) : Cx Γ l' news s := let ⟨m, F, k⟩ := C.fr; ⟨C.ok, ⟨m, F, fun p hp => k p (h p hp)⟩, C.nw, C.nd, C.gens, C.drawn, C.os⟩
theorem Cx.drop (C : Cx Γ l news s) (h : news'.Sublist news) : Cx Γ l news' s :=
  ⟨C.ok, C.fr, fun p hp => C.nw p (h.subset hp), (h.map _).nodup C.nd, C.gens, C.drawn, C.os⟩
theorem Cx.alloc (C : Cx Γ l news s) (o : Obj) (hf : o.isFreed = false) : Cx Γ l ((s.heap.objs.size, o) :: news) { s with heap := s.heap.push o } := by
  obtain ⟨m, F, k⟩ := C.fr
  refine ⟨C.ok, ⟨m, F.push o, k⟩, News.push F C.nw o hf, ?_, C.gens, C.drawn, C.os⟩
  rw [List.map_cons, List.nodup_cons]
  refine ⟨fun h => ?_, C.nd⟩
  obtain ⟨p, hp, e⟩ := List.mem_map.mp h
  exact absurd (Heap.lt_size (C.nw p hp).1) (by rw [e]; exact Nat.lt_irrefl _)
inductive Rep (d : Addr) (o o' : Obj) : List (Addr × Obj) → List (Addr × Obj) → Prop
  | head {r} : Rep d o o' ((d, o) :: r) ((d, o') :: r)
  | tail {p r r'} : Rep d o o' r r' → Rep d o o' (p :: r) (p :: r')
theorem Rep.mem {d : Addr} {o o' : Obj} {n n' : List (Addr × Obj)} (h : Rep d o o' n n') : (d, o) ∈ n := by
  induction h with
  | head => exact .head _
  | tail _ ih => exact .tail _ ih
theorem Rep.addrs {d : Addr} {o o' : Obj} {n n' : List (Addr × Obj)} (h : Rep d o o' n n') : n'.map (·.1) = n.map (·.1) := by
  induction h with
  | head => rfl
  | tail _ ih => simp only [List.map_cons, ih]
theorem Rep.upd {d : Addr} {o o' : Obj} {n n' : List (Addr × Obj)} (h : Rep d o o' n n') (nd : (n.map (·.1)).Nodup) : Upd d o o' n n' := by
  induction h with
  | head =>
    rw [List.map_cons, List.nodup_cons] at nd
    exact .head fun p hp e => nd.1 (List.mem_map.mpr ⟨p, hp, e⟩)
  | @tail p r r' h ih =>
    rw [List.map_cons, List.nodup_cons] at nd
    exact .tail (fun e => nd.1 (List.mem_map.mpr ⟨_, h.mem, e.symm⟩)) (ih nd.2)
end
def Run {α : Type} (Γ : G) (l : List (Str × Value)) (news : List (Addr × Obj)) (t : Sem α) (P : α → Prop) : Prop :=
  ∀ (s : Shared) (Q : α → Shared → Prop) (E : Value → Shared → Prop), Cx Γ l news s → (∀ a s', P a → Cx Γ l news s' → Q a s') → wpAny (model prg Γ.w) Γ.A t Q E s
abbrev Ev (Γ : G) (l : List (Str × Value)) (news : List (Addr × Obj)) (e : Expr) (P : Value → Prop) : Prop := Run Γ l news (eval e Γ.env) P
abbrev IsT (Γ : G) (l : List (Str × Value)) (news : List (Addr × Obj)) (e : Expr) (b : Bool) : Prop := Run Γ l news (isTrue e Γ.env (eval e Γ.env)) (· = b)
def IsI (i : Int) (v : Value) : Prop := ∃ t, v = .int i t
def IsS (x : Str) (v : Value) : Prop := ∃ t, v = .str x t
section
variable {Γ : G} {l l' : List (Str × Value)} {news news' : List (Addr × Obj)} {α β : Type}
theorem Run.mono {m : Sem α} {P R : α → Prop} (hm : Run Γ l news m P) (h : ∀ a, P a → R a) : Run Γ l news m R := fun s Q E C k => hm s Q E C fun a s' p C' => k a s' (h a p) C'
theorem Run.of {t : Sem α} {P : α → Prop} (h : ∀ (s : Shared) (Q : α → Shared → Prop) (E : Value → Shared → Prop), Cx Γ l news s → (∀ a n, P a → Q a { s with toks := n }) → wpAny (model prg Γ.w) Γ.A t Q E s) : Run Γ l news t P :=
  fun s Q E C k => h s Q E C fun a n p => k a _ p (C.tok n)
end
theorem gl_isNs (P : Params) : nsOkIn (KL P) mainGlobals = true := by kernel_rfl
theorem bl_isNs (P : Params) : nsOkIn (KL P) builtinsNs = true := by kernel_rfl
theorem st_isNs (P : Params) : nsOkIn (KL P) cStatics = true := by kernel_rfl
theorem st_limit (P : Params) : nsIn (KL P) cStatics "sys.recursionlimit" = some none := by kernel_rfl
section
variable {Γ : G} {l l' : List (Str × Value)} {news news' : List (Addr × Obj)} {s : Shared} {α β : Type}
theorem SB.gl {w : World} {h : Heap} (S : SB w h) : h.Ns mainGlobals (h.nsMap mainGlobals) := .of_isNs (isNs_of_in S (gl_isNs _))
theorem SB.bl {w : World} {h : Heap} (S : SB w h) : h.Ns builtinsNs (h.nsMap builtinsNs) := .of_isNs (isNs_of_in S (bl_isNs _))
theorem SB.lim {w : World} {h : Heap} (S : SB w h) : h.NoLimit := ⟨_, .of_isNs (isNs_of_in S (st_isNs _)), nsMap_none_of_in S (st_isNs _) (st_limit _)⟩
theorem Cx.glv (C : Cx Γ l news s) {x : Str} {v : Value} (e : nsIn (KL Γ.w.params) mainGlobals x = some (some v)) : s.heap.nsMap mainGlobals x = some v := mg_of (kl_in C.stands) C.stands.gl e
theorem Cx.gln (C : Cx Γ l news s) {x : Str} (e : nsIn (KL Γ.w.params) mainGlobals x = some none) : s.heap.nsMap mainGlobals x = none := mg_none_of (kl_in C.stands) C.stands.gl e
set_option tactic.hygienic true in
theorem mb_of {K : Frag} {h : Heap} {mb : Str → Option Value} {n : Str} {v : Value} {a : Addr} (X : K.In h) (G : h.Ns a mb) (e : nsIn K a n = some (some v)) : mb n = some v := by
  walk_at "h"
  obtain ⟨o, es, ep, ho, hd, _, hf⟩ := G
  walk_at "u"
  unfold nsIn at e
  split at e
  · rename_i c d es' n' sl q
    have := X _ _ q
    rw [ho] at this
    cases this
    cases hd
    split at e
    · rename_i en he
      cases e
      rw [← hf]
      unfold nsFind findBy
      rw [← Array.find?_toList, he]
      rfl
    · split at e <;> cases e
  · cases e
theorem ev_name {x : Str} {pos : Pos} {v : Value} (hm : (x, v) ∈ l) (hx : Γ.env.kindOf x = some .local := by kernel_rfl) (hd : (x == ("__debug__" : Str)) = false := by kernel_rfl) (hlo : Γ.env.locals = Γ.L := by rfl) : Ev Γ l news (.Name x pos) (· = v) := fun s Q E C k => by
  obtain ⟨m, F, hl⟩ := C.fr
  exact wpAny_Name (wpAny_loadName_local C.ok.kd hx (by rw [hlo]; exact F.ns) (hl _ hm) (k _ _ rfl C)) hd
theorem ev_glob {x : Str} {pos : Pos} {v : Value} (e : nsIn (KL Γ.w.params) mainGlobals x = some (some v)) (hx : Γ.env.kindOf x = some .globalImplicit := by kernel_rfl) (hd : (x == ("__debug__" : Str)) = false := by kernel_rfl) : Ev Γ l news (.Name x pos) (· = v) := fun s Q E C k =>
  Name_function_global C.ok.kd hx (loadGlobal_global (by rw [C.ok.gl]; exact C.stands.gl) (C.glv e) (k _ _ rfl C)) hd
theorem ev_bltn {x : Str} {pos : Pos} {v : Value} (e : nsIn (KL Γ.w.params) mainGlobals x = some none) (e' : nsIn (KL Γ.w.params) builtinsNs x = some (some v)) (hx : Γ.env.kindOf x = some .globalImplicit := by kernel_rfl) (hd : (x == ("__debug__" : Str)) = false := by kernel_rfl) : Ev Γ l news (.Name x pos) (· = v) := fun s Q E C k =>
  Name_function_global C.ok.kd hx (loadGlobal_builtin (by rw [C.ok.gl]; exact C.stands.gl) (C.gln e) (by rw [C.ok.bi]; exact C.stands.bl) (mb_of (kl_in C.stands) C.stands.bl e') (k _ _ rfl C)) hd
theorem ev_str {x : Str} {i : Nat} {pos : Pos} : Ev Γ l news (.Constant (.str x) i pos) (IsS x) := Run.of fun s Q E C k => Calls.Constant_str (k _ _ ⟨_, rfl⟩)
theorem ev_int {x : Int} {i : Nat} {pos : Pos} : Ev Γ l news (.Constant (.int x) i pos) (IsI x) := Run.of fun s Q E C k => wpAny_Constant_int (k _ _ ⟨_, rfl⟩)
theorem ev_none {i : Nat} {pos : Pos} : Ev Γ l news (.Constant .none i pos) (· = .none) := fun s Q E C k => wpAny_Constant_none (k _ _ rfl C)
theorem ev_bool {b : Bool} {i : Nat} {pos : Pos} : Ev Γ l news (.Constant (.bool b) i pos) (· = .bool b) := fun s Q E C k => wpAny_Constant_bool (k _ _ rfl C)
def At (h : Heap) (x C : Addr) (n : Str) (v : Value) : Prop := ∃ d es k, h.get? x = some (instObj C d) ∧ h.get? d = some (dictOf es k) ∧ getL n es = some (some v) ∧ handedIn v = true
noncomputable def attrOk (K : Frag) (C : Addr) (n : Str) : Bool := plainGet K C n && hasDictIn K C && (match findIn K (.ref C) n with | some a => noGet K a | none => false)
theorem get_at {expr : Bool} {x C : Addr} {n : Str} {v : Value} (ok : attrOk (KL Γ.w.params) C n = true) (h : ∀ s, Cx Γ l news s → At s.heap x C n v) : Run Γ l news (getAttr (.ref x) n expr) (· = v) := Run.of fun s Q E X k => by
  walk_at "h"
  obtain ⟨d, es, i, h1, h2, h3, h4⟩ := h s X
  walk_at "u"
  unfold attrOk at ok
  simp only [Bool.and_eq_true] at ok
  obtain ⟨⟨k1, k2⟩, k3⟩ := ok
  split at k3
  · rename_i a ha
    exact get_value X.k (⟨h1, rfl, rfl, h2⟩ : InstAt s.heap x (instObj C d) C (some (dictOf es i))) (plainGet_of k1).1 (findObj_own k2 ha k3 h3) h4 (k _ _ rfl)
  · cases k3
theorem At.keeps {h h' : Heap} {x C : Addr} {n : Str} {v : Value} (a : At h x C n v) (k : ∀ b o, h.get? b = some o → h'.get? b = some o) : At h' x C n v := let ⟨d, es, i, h1, h2, h3, h4⟩ := a; ⟨d, es, i, k _ _ h1, k _ _ h2, h3, h4⟩
theorem ev_attr_name {x n : Str} {np pos : Pos} {a : Addr} {P : Value → Prop} (he : Ev Γ l news (.Name x np) (· = .ref a)) (hg : Run Γ l news (getAttr (.ref a) n true) P) : Ev Γ l news (.Attribute (.Name x np) n pos) P := fun s Q E C k =>
  Attribute_name (he s _ E C fun v s' hv C' => by subst hv; exact hg s' Q E C' k)
theorem ev_attr_attr {e : Expr} {n n' : Str} {np pos : Pos} {a : Addr} {P : Value → Prop} (he : Ev Γ l news (.Attribute e n' np) (· = .ref a)) (hg : Run Γ l news (getAttr (.ref a) n true) P) : Ev Γ l news (.Attribute (.Attribute e n' np) n pos) P := fun s Q E C k =>
  Attribute_any_ (he s _ E C fun v s' hv C' => by subst hv; exact hg s' Q E C' k) (by with_unfolding_all rfl)
theorem at_imm {x C : Addr} {n : Str} {v : Value} (h : At Γ.g x C n v) : ∀ s, Cx Γ l news s → At s.heap x C n v := fun s C => h.keeps fun b o e => C.keep e
theorem at_mix {x C d : Addr} {es : List DictEntry} {i : Nat} {n : Str} {v : Value} (hx : Γ.g.get? x = some (instObj C d)) (hd : (d, dictOf es i) ∈ news) (hv : getL n es = some (some v)) (hh : handedIn v = true) : ∀ s, Cx Γ l news s → At s.heap x C n v := fun s X =>
  ⟨d, es, i, X.keep hx, X.obj hd, hv, hh⟩
theorem at_new {x C d : Addr} {es : List DictEntry} {i : Nat} {n : Str} {v : Value} (hx : (x, instObj C d) ∈ news) (hd : (d, dictOf es i) ∈ news) (hv : getL n es = some (some v)) (hh : handedIn v = true) : ∀ s, Cx Γ l news s → At s.heap x C n v := fun s X =>
  ⟨d, es, i, X.obj hx, X.obj hd, hv, hh⟩
theorem ist_bool {e : Expr} {b : Bool} (h : Ev Γ l news e (· = .bool b)) (heq : isTrue e Γ.env (eval e Γ.env) = (do let v ← eval e Γ.env; standAt e.pos; holding [v] (truthy v)) := by with_unfolding_all rfl) : IsT Γ l news e b := fun s Q E C k =>
  isTrue_plain (h s _ E C fun v s' hv C' => by subst hv; exact wpAny_truthy_bool (k _ _ rfl C')) heq
theorem ist_cmp {a b : Expr} {op : CmpOp} {pos : Pos} {c : Bool} {P R : Value → Prop} (ha : Ev Γ l news a P) (hb : Ev Γ l news b R) (hc : ∀ u v, P u → R v → Run Γ l news (compareOp op u v) (· = .bool c)) (hm : behindInMarks op b = false := by rfl) :
    IsT Γ l news (.Compare a [op] [b] pos) c := fun s Q E C k =>
  wpAny_isTrue_Compare1 (ha s _ E C fun u s₁ hu C₁ => hb s₁ _ E C₁ fun v s₂ hv C₂ => hc u v hu hv s₂ _ E C₂ fun r s₃ hr C₃ => by subst hr; exact wpAny_truthy_bool (k _ _ rfl C₃)) hm
theorem ev_cmp {a b : Expr} {op : CmpOp} {pos : Pos} {P R S : Value → Prop} (ha : Ev Γ l news a P) (hb : Ev Γ l news b R) (hc : ∀ u v, P u → R v → Run Γ l news (compareOp op u v) S) (hm : behindInMarks op b = false := by rfl) :
    Ev Γ l news (.Compare a [op] [b] pos) S := fun s Q E C k =>
  wpAny_Compare1 (ha s _ E C fun u s₁ hu C₁ => hb s₁ _ E C₁ fun v s₂ hv C₂ => hc u v hu hv s₂ _ E C₂ k) hm
theorem ist_not {e : Expr} {pos : Pos} {b c : Bool} (h : IsT Γ l news e b) (hc : (!b) = c) : IsT Γ l news (.UnaryOp .Not e pos) c := fun s Q E C k =>
  isTrue_not (h s _ E C fun v s' hv C' => by subst hv; exact k _ _ hc C')
theorem ist_and_nil {pos : Pos} : IsT Γ l news (.BoolOp .And [] pos) true := fun s Q E C k => isTrue_and_nil (k _ _ rfl C)
theorem ist_or_nil {pos : Pos} : IsT Γ l news (.BoolOp .Or [] pos) false := fun s Q E C k => isTrue_or_nil (k _ _ rfl C)
theorem ist_and_f {e : Expr} {r : List Expr} {pos : Pos} (h : IsT Γ l news e false) : IsT Γ l news (.BoolOp .And (e :: r) pos) false := fun s Q E C k =>
  isTrue_and (h s _ E C fun v s' hv C' => by subst hv; rw [if_neg (by decide)]; exact k _ _ rfl C')
theorem ist_and_t {e : Expr} {r : List Expr} {pos : Pos} {b : Bool} (h : IsT Γ l news e true) (hr : IsT Γ l news (.BoolOp .And r pos) b) : IsT Γ l news (.BoolOp .And (e :: r) pos) b := fun s Q E C k =>
  isTrue_and (h s _ E C fun v s' hv C' => by subst hv; rw [if_pos rfl]; exact hr s' Q E C' k)
theorem ist_or_t {e : Expr} {r : List Expr} {pos : Pos} (h : IsT Γ l news e true) : IsT Γ l news (.BoolOp .Or (e :: r) pos) true := fun s Q E C k =>
  isTrue_or (h s _ E C fun v s' hv C' => by subst hv; rw [if_pos rfl]; exact k _ _ rfl C')
theorem ist_or_f {e : Expr} {r : List Expr} {pos : Pos} {b : Bool} (h : IsT Γ l news e false) (hr : IsT Γ l news (.BoolOp .Or r pos) b) : IsT Γ l news (.BoolOp .Or (e :: r) pos) b := fun s Q E C k =>
  isTrue_or (h s _ E C fun v s' hv C' => by subst hv; rw [if_neg (by decide)]; exact hr s' Q E C' k)
theorem ev_or_f {e₁ e₂ : Expr} {r : List Expr} {pos : Pos} {P : Value → Prop} (h : Ev Γ l news e₁ (· = .bool false)) (hr : Ev Γ l news (.BoolOp .Or (e₂ :: r) pos) P) : Ev Γ l news (.BoolOp .Or (e₁ :: e₂ :: r) pos) P := fun s Q E C k =>
  BoolOp_or (h s _ E C fun v s' hv C' => by subst hv; exact wpAny_truthy_bool (by rw [if_neg (by decide)]; exact hr s' Q E C' k))
theorem ev_bool1 {e : Expr} {op : BoolOp} {pos : Pos} {P : Value → Prop} (h : Ev Γ l news e P) : Ev Γ l news (.BoolOp op [e] pos) P := fun s Q E C k => BoolOp_one (h s Q E C k)
theorem cmp_eq_str {x y : Str} {c : Bool} (hc : (x == y) = c) : ∀ u v, IsS x u → IsS y v → Run Γ l news (compareOp .Eq u v) (· = .bool c) := by
  rintro _ _ ⟨t, rfl⟩ ⟨t', rfl⟩
  exact Run.of fun s Q E C k => eq_str (by rw [hc]; exact k _ s.toks rfl)
theorem cmp_isnot_none {v : Value} {c : Bool} (hc : (!(v == .none)) = c) : ∀ u z, u = v → z = Value.none → Run Γ l news (compareOp .IsNot u z) (· = .bool c) := by
  rintro _ _ rfl rfl
  exact Run.of fun s Q E C k => isnot_none_gen (by rw [hc]; exact k _ s.toks rfl)
theorem in_topS {x : Str} {a : Addr} {vs : List Value} {n : Nat} {ys : List Str} {c : Bool} (hl : (KL Γ.w.params).lookup a = some ⟨.type "tuple", none, .seq vs.toArray n, #[]⟩) (hi : StrsAre vs ys) (hc : ys.any (· == x) = c) :
    ∀ u v, IsS x u → v = .ref a → Run Γ l news (compareOp .In u v) (· = .bool c) := by
  rintro _ _ ⟨t, rfl⟩ rfl
  exact Run.of fun s Q E C k => in_tuple_strs (tupK C.k hl) (by simpa using hi) (by rw [hc]; exact k _ s.toks rfl)
end
structure Pre (w : World) (A : Around) (outer : List Env) (base g : Heap) (muts : List (Addr × Obj)) (s : Shared) : Prop where
  hA : A.frames = some outer
  hh : A.handled = none
  bs : base.StaysIn g
  bf : g.FunFrames base outer
  st : SB w g
  keep : ∀ b o, g.get? b = some o → s.heap.get? b = some o
  size : g.objs.size ≤ s.heap.objs.size
  mu : ∀ p ∈ muts, s.heap.get? p.1 = some p.2 ∧ g.get? p.1 = none
  nd : (muts.map (·.1)).Nodup
structure Back (g : Heap) (muts : List (Addr × Obj)) (s s' : Shared) : Prop where
  keep : ∀ b o, g.get? b = some o → s'.heap.get? b = some o
  size : g.objs.size ≤ s'.heap.objs.size
  mu : ∀ p ∈ muts, s'.heap.get? p.1 = some p.2 ∧ g.get? p.1 = none
  nd : (muts.map (·.1)).Nodup
  gens : s'.gens = s.gens
  drawn : s'.drawn = s.drawn
  os : s'.os = s.os
section
variable {Γ : G} {l l' : List (Str × Value)} {news news' : List (Addr × Obj)} {s s' : Shared} {w : World} {A : Around} {outer : List Env} {base g : Heap} {muts : List (Addr × Obj)}
theorem Cx.back_of (C : Cx Γ l news s) : Back Γ.g news Γ.s₀ s :=
  let ⟨_, F, _⟩ := C.fr
  ⟨F.keep, Nat.le_trans F.above (Nat.le_of_lt F.ns.lt), fun p hp => ⟨(C.nw p hp).1, (C.nw p hp).2.2⟩, C.nd, C.gens, C.drawn, C.os⟩
noncomputable abbrev gOf (s : Shared) (news : List (Addr × Obj)) : Heap := hideAll s.heap (news.map (·.1))
theorem Cx.g_le (C : Cx Γ l news s) {b : Addr} {o : Obj} (h : Γ.g.get? b = some o) : (gOf s news).get? b = some o :=
  hideAll_get _ (C.keep h) fun q => by
    obtain ⟨p, hp, e⟩ := List.mem_map.mp q
    have := (C.nw p hp).2.2; rw [e, h] at this; cases this
theorem Cx.pre (C : Cx Γ l news s) : Pre Γ.w Γ.A (Γ.fe :: Γ.outer) Γ.base (gOf s news) news s := by
  obtain ⟨m, F, hl⟩ := C.fr
  walk_at "h"
  obtain ⟨oL, es, ep, hL, hLd, hLk, hLf⟩ := F.ns
  walk_at "u"
  have hLg : (gOf s news).get? Γ.L = some oL := hideAll_get _ hL fun q => by
    obtain ⟨p, hp, e⟩ := List.mem_map.mp q
    exact (C.nw p hp).2.1 e
  have st : Γ.g.StaysIn (gOf s news) := fun b o e => C.g_le e
  refine ⟨C.ok.hA, C.ok.hh, fun b o e => st b o (C.ok.bs b o e), ?_, fun b o e => st b o (C.ok.st b o e), fun b o e => of_hideAll _ e, Nat.le_of_eq (hideAll_size _ _), fun p hp => ⟨(C.nw p hp).1, hideAll_none _ (List.mem_map_of_mem hp)⟩, C.nd⟩
  have hnew : Γ.base.get? Γ.L = none := by
    cases hq : Γ.base.get? Γ.L with
    | none => rfl
    | some o => exact absurd (Nat.lt_of_lt_of_le (Heap.lt_size (C.ok.bs _ o hq)) F.above) (Nat.lt_irrefl _)
  exact .cons (by rw [C.ok.kf]; decide) C.ok.fr ⟨oL, es, ep, hLg, hLd, hLk, hLf⟩ hnew (C.ok.bf.of_keeps fun b o e _ => ⟨o, st b o e, rfl⟩)
theorem Cx.after (C : Cx Γ l news s) (B : Back (gOf s news) news' s s') : Cx Γ l news' s' := by
  obtain ⟨m, F, hl⟩ := C.fr
  walk_at "h"
  obtain ⟨oL, es, ep, hL, hLd, hLk, hLf⟩ := F.ns
  walk_at "u"
  have hLg : (gOf s news).get? Γ.L = some oL := hideAll_get _ hL fun q => by
    obtain ⟨p, hp, e⟩ := List.mem_map.mp q
    exact (C.nw p hp).2.1 e
  refine ⟨C.ok, ⟨m, ⟨⟨oL, es, ep, B.keep _ _ hLg, hLd, hLk, hLf⟩, fun b o e => B.keep _ _ (C.g_le e), F.above⟩, hl⟩, fun p hp => ⟨(B.mu p hp).1, fun q => ?_, ?_⟩, B.nd, B.gens.trans C.gens, B.drawn.trans C.drawn, B.os.trans C.os⟩
  · have := (B.mu p hp).2; rw [q, hLg] at this; cases this
  · cases q : Γ.g.get? p.1 with
    | none => rfl
    | some o => have := (B.mu p hp).2; rw [C.g_le q] at this; cases this
noncomputable abbrev fEnv (p : List Nat) (qn : String) (f : Addr) (code : Addr) (L : Addr) : Env := envX (Str.ofString qn) (fS p) L f (.ref code) []
theorem lk_mem : ∀ {l : List (Str × Value)}, (l.map (·.1)).Nodup → ∀ {p : Str × Value}, p ∈ l → l.lookup p.1 = some p.2
  | (x, v) :: l, nd, p, hp => by
    rw [List.map_cons, List.nodup_cons] at nd
    rcases List.mem_cons.mp hp with rfl | hp
    · simp [List.lookup]
    · have : p.1 ≠ x := fun e => nd.1 (List.mem_map.mpr ⟨p, hp, e⟩)
      have h2 : (p.1 == x) = false := by simpa using this
      rw [List.lookup_cons, h2]; exact lk_mem nd.2 hp
theorem enter {f code : Addr} {p : List Nat} {nm qn : String} {dV kV doc pm ct oc : Value} {an od : Option Addr} {osl : Array (Option Value)} {args : Args} {binds : List (Str × Value)} {R : Result → Shared → Prop}
    (P : Pre w A outer base g muts s) (hd : A.depth < 590) (hu : A.units < 8990)
    (hk : (KL w.params).lookup f = some ⟨oc, od, .func (fd p nm qn 3 [] dV kV doc pm an (.ref code) ct 0), osl⟩) (hcode : codeIn (KL w.params) (.ref code) (Str.ofString qn) = true)
    (hbind : BindsTo s (fd p nm qn 3 [] dV kV doc pm an (.ref code) ct 0) args binds)
    (hloc : (binds.all fun x => decide ((fS p).names.lookup x.1 = some .local)) = true) (hnc : ((fS p).names.all fun x => x.2 != .cell) = true)
    (hco : (fS p).isCoroutine = false) (hgen : (fS p).isGenerator = false) (hkd : (fS p).kind = .function) (hdup : (binds.map (·.1)).Nodup)
    (h : ∀ L s₁, Cx ⟨w, A.deeper (fEnv p qn f code L), s, g, L, outer, base, fEnv p qn f code L⟩ binds muts s₁ →
      wpAny (model prg w) (A.deeper (fEnv p qn f code L)) (execs (fB p) (fEnv p qn f code L)) (fun fl s' => R (.ok (.ret (match fl with | .ret v => v | _ => .none))) s')
        (fun e s' => wpAny (model prg w) (A.deeper (fEnv p qn f code L)) (leaving (fEnv p qn f code L) e) (fun _ s'' => R (.error e) s'') (fun e' s'' => R (.error e') s'') s') s₁) :
    codeAny (model prg w) A (.call (.ref f) args) R s := by
  have K := kl_in P.st
  have hf := P.keep _ _ (K _ _ hk)
  refine codeAny_call_def (fd := fd p nm qn 3 [] dV kV doc pm an (.ref code) ct 0) (body := fB p) (binds := binds) (Nat.lt_trans hd (by decide)) hf rfl (P.st.lim.keeps P.keep) ((codeRec_of K hcode).keeps P.keep) rfl hbind
    (fun x hx => by have := List.all_eq_true.mp hnc x hx; simpa using this) (locs hloc) (fun h₁ hns hk₁ => ?_) hco hgen hkd
  refine h s.heap.objs.size _ ⟨G.Ok.fn (A := A) P.hA rfl P.hh ?_ ?_ rfl hkd rfl rfl P.bs P.bf P.st, ⟨_, ⟨hns, fun b o e => hk₁ b o (P.keep b o e), P.size⟩, fun q hq => ?_⟩, fun q hq => ⟨hk₁ _ _ (P.mu q hq).1, Nat.ne_of_lt (Heap.lt_size (P.mu q hq).1), (P.mu q hq).2⟩, P.nd, rfl, rfl, rfl⟩
  · show A.depth + 1 < 600; omega
  · show A.units + 3 < 9000; omega
  · exact lk_mem (by rw [List.map_reverse]; unfold List.Nodup; rw [List.pairwise_reverse]; exact hdup.imp Ne.symm) (List.mem_reverse.mpr hq)
end
theorem execs_app (env : Env) (r : List Stmt) : ∀ b : List Stmt, execs (b ++ r) env = (execs b env >>= fun f => match f with | .next => execs r env | f => pure f)
  | [] => rfl
  | st :: b => by
    show (exec st env >>= fun f => match f with | .next => execs (b ++ r) env | f => pure f) = ((exec st env >>= fun f => match f with | .next => execs b env | f => pure f) >>= fun f => match f with | .next => execs r env | f => pure f)
    show (exec st env).bind _ = ((exec st env).bind _).bind _
    rw [Sem.bind_assoc]
    refine congrArg _ (funext fun f => ?_)
    cases f with
    | next => exact execs_app env r b
    | brk => rfl
    | cont => rfl
    | ret v => rfl
section
variable {Γ : G} {l l' : List (Str × Value)} {news news' : List (Addr × Obj)} {s : Shared} {Q : Flow → Shared → Prop} {E : Value → Shared → Prop} {rest : List Stmt}
def Ex (Γ : G) (l : List (Str × Value)) (news : List (Addr × Obj)) (b : List Stmt) (Q : Flow → Shared → Prop) (E : Value → Shared → Prop) : Prop :=
  ∀ s, Cx Γ l news s → wpAny (model prg Γ.w) Γ.A (execs b Γ.env) Q E s
theorem ex_nil (k : ∀ s, Cx Γ l news s → Q .next s) : Ex Γ l news [] Q E := fun s C => wpAny_execs_nil (k s C)
theorem ex_ret {e : Expr} {pos : Pos} {P : Value → Prop} (h : Ev Γ l news e P) (k : ∀ v s, P v → Cx Γ l news s → Q (.ret v) s) : Ex Γ l news (.Return (some e) pos :: rest) Q E := fun s C =>
  wpAny_execs_cons (wpAny_Return_some (h s _ E C fun v s' hv C' => k v s' hv C'))
theorem ex_if {t : Expr} {b o : List Stmt} {pos : Pos} {c : Bool} (ht : IsT Γ l news t c) (k : Ex Γ l news ((if c then b else o) ++ rest) Q E) : Ex Γ l news (.If t b o pos :: rest) Q E := fun s C => by
  have e : execs (.If t b o pos :: rest) Γ.env = (standAt pos >>= fun _ => isTrue t Γ.env (eval t Γ.env) >>= fun c => execs ((if c then b else o) ++ rest) Γ.env) := by
    show ((standAt pos >>= fun _ => isTrue t Γ.env (eval t Γ.env) >>= fun c => if c = true then execs b Γ.env else execs o Γ.env) >>= fun f => match f with | .next => execs rest Γ.env | f => pure f) = _
    show ((standAt pos).bind fun _ => (isTrue t Γ.env (eval t Γ.env)).bind _).bind _ = (standAt pos).bind fun _ => (isTrue t Γ.env (eval t Γ.env)).bind _
    rw [Sem.bind_assoc]
    refine congrArg _ (funext fun _ => ?_)
    rw [Sem.bind_assoc]
    refine congrArg _ (funext fun c => ?_)
    cases c
    · exact (execs_app Γ.env rest o).symm
    · exact (execs_app Γ.env rest b).symm
  rw [e]
  exact wpAny_bind (wpAny_standAt (wpAny_bind (ht s _ E C fun c' s' hc C' => by subst hc; exact k s' C')))
theorem ex_if_t {t : Expr} {b o : List Stmt} {pos : Pos} (ht : IsT Γ l news t true) (k : Ex Γ l news (b ++ rest) Q E) : Ex Γ l news (.If t b o pos :: rest) Q E := ex_if ht (by rw [if_pos rfl]; exact k)
theorem ex_if_f {t : Expr} {b o : List Stmt} {pos : Pos} (ht : IsT Γ l news t false) (k : Ex Γ l news (o ++ rest) Q E) : Ex Γ l news (.If t b o pos :: rest) Q E := ex_if ht (by rw [if_neg (by decide)]; exact k)
theorem st_local {x : Str} {v : Value} {Q : Unit → Shared → Prop} (C : Cx Γ l news s) (hx : Γ.env.kindOf x = some .local) (hl : ∀ p ∈ l', p ∈ l) (hn : (l'.all fun p => !(p.1 == x)) = true) (k : ∀ s', Cx Γ ((x, v) :: l') news s' → Q () s') (hlo : Γ.env.locals = Γ.L := by rfl) :
    wpAny (model prg Γ.w) Γ.A (storeName Γ.env x v) Q E s := by
  obtain ⟨m, F, hm⟩ := C.fr
  refine wpAny_storeName_local hx (by rw [hlo]; exact F.ns) (fun h' hns hs => k _ ?_) (by rw [C.ok.kd]; rfl)
  rw [hlo] at hns hs
  refine ⟨C.ok, ⟨_, F.set hns hs, fun p hp => ?_⟩, C.nw.set hs, C.nd, C.gens, C.drawn, C.os⟩
  rcases List.mem_cons.mp hp with rfl | hp
  · simp
  · have h1 := List.all_eq_true.mp hn p hp
    have h2 : p.1 ≠ x := fun e => by rw [e] at h1; simp at h1
    show (if p.1 = x then some v else m p.1) = _
    rw [if_neg h2]; exact hm p (hl p hp)
theorem ex_assign {x : Str} {e : Expr} {p pos : Pos} {P : Value → Prop} (h : Ev Γ l news e P) (hx : Γ.env.kindOf x = some .local) (hl : ∀ p ∈ l', p ∈ l) (hn : (l'.all fun p => !(p.1 == x)) = true)
    (k : ∀ v, P v → Ex Γ ((x, v) :: l') news rest Q E) (hsw : swapsWith e (some (.Name x p)) pos.line Γ.env = pure false := by rfl) (hlo : Γ.env.locals = Γ.L := by rfl) : Ex Γ l news (.Assign [.Name x p] e pos :: rest) Q E := fun s C =>
  wpAny_execs_cons (wpAny_Assign_Name (h s _ E C fun v s' hv C' => st_local C' hx hl hn (fun s'' C'' => k v hv s'' C'') hlo) hsw)
def Ev' (Γ : G) (l : List (Str × Value)) (news : List (Addr × Obj)) (e : Expr) (P : Value → List (Addr × Obj) → Prop) : Prop :=
  ∀ (s : Shared) (Q : Value → Shared → Prop) (E : Value → Shared → Prop), Cx Γ l news s → (∀ v n s', P v n → Cx Γ l n s' → Q v s') → wpAny (model prg Γ.w) Γ.A (eval e Γ.env) Q E s
def Evs (Γ : G) (l : List (Str × Value)) (news : List (Addr × Obj)) (pos : Pos) (es : List Expr) (P : List Value → Prop) : Prop := Run Γ l news (spliced (backTo pos (starEach es Γ.env))) P
theorem evs_nil {pos : Pos} : Evs Γ l news pos [] (· = []) := fun s Q E C k => spliced_none (k _ _ rfl C)
theorem evs_cons {e : Expr} {r : List Expr} {pos : Pos} {P : Value → Prop} {R : List Value → Prop} (h : Ev Γ l news e P) (hr : Evs Γ l news pos r R) (he : starEach (e :: r) Γ.env = (false, eval e Γ.env) :: starEach r Γ.env := by rfl) :
    Evs Γ l news pos (e :: r) (fun vs => ∃ v, P v ∧ ∃ u, R u ∧ vs = v :: u) := fun s Q E C k =>
  spliced_more (h s _ E C fun v s' hv C' => hr s' _ E C' fun u s'' hu C'' => k _ _ ⟨v, hv, u, hu, rfl⟩ C'') he
theorem call_fn {f : Addr} {o : Obj} {fdt : FuncData} {first : List Value} {e : Expr} {r : List Expr} {pos : Pos} {R : List Value → Prop} {Q : Value → Shared → Prop} (hk : (KL Γ.w.params).lookup f = some o) (hd : o.data = .func fdt)
    (ha : Evs Γ l news pos (e :: r) R) (C : Cx Γ l news s) (k : ∀ vs s', R vs → Cx Γ l news s' → wpAny (model prg Γ.w) Γ.A (call (.ref f) (first ++ vs)) Q E s') (he : starEach (e :: r) Γ.env = (false, eval e Γ.env) :: starEach r Γ.env := by rfl) :
    wpAny (model prg Γ.w) Γ.A (callWith pos (.ref f) first (backTo pos (starEach (e :: r) Γ.env)) []) Q E s :=
  callWith_meth (h₀ := Γ.g) hd (C.k0 _ _ hk) (ha s _ E C fun vs s' hv C' => ⟨fun b o e => C'.keep e, k vs s' hv C'⟩) he
theorem ev_call {fe : Expr} {f : Addr} {o : Obj} {fdt : FuncData} {e : Expr} {r : List Expr} {pos : Pos} {R : List Value → Prop} {P : Value → Prop} (hk : (KL Γ.w.params).lookup f = some o) (hd : o.data = .func fdt) (hf : Ev Γ l news fe (· = .ref f))
    (ha : Evs Γ l news pos (e :: r) R) (hc : ∀ vs, R vs → Run Γ l news (call (.ref f) vs) P) (he : starEach (e :: r) Γ.env = (false, eval e Γ.env) :: starEach r Γ.env := by rfl)
    (hc' : eval (.Call fe (e :: r) [] pos) Γ.env = (do callWith pos (← eval fe Γ.env) [] (backTo pos (starEach (e :: r) Γ.env)) (backToKw pos (keywordEach [] Γ.env))) := by rfl) : Ev Γ l news (.Call fe (e :: r) [] pos) P := fun s Q E C k =>
  Call_ (hf s _ E C fun v s' hv C' => by subst hv; exact call_fn (first := []) hk hd ha C' (fun vs s₂ hv C₂ => hc vs hv s₂ Q E C₂ k) he) hc'
end
def Room (A : Around) (n : Nat) : Prop := A.depth + 2 * n < 590 ∧ A.units + 20 * n < 8990
theorem Room.le {A : Around} {n k : Nat} (h : Room A n) (hk : k ≤ n) : Room A k := ⟨by have := h.1; omega, by have := h.2; omega⟩
structure Thrown (g base : Heap) (outer : List Env) (s : Shared) (e : Value) (s' : Shared) : Prop where
  at_ : ∃ a, e = .ref a ∧ base.get? a = none ∧ s'.heap.Traced base a (.ref 59)
  bs : base.StaysIn s'.heap
  bf : s'.heap.FunFrames base outer
  sl : ∀ b o, g.get? b = some o → (∀ vs, o.data ≠ .fields vs) → ∃ sl, s'.heap.get? b = some { o with slots := sl }
  gens : s'.gens = s.gens
  drawn : s'.drawn = s.drawn
  os : s'.os = s.os
def Noted (h base : Heap) (L e : Addr) (cls : Value) : Prop :=
  ∃ oe vs T oT ts, h.get? e = some oe ∧ oe.cls = cls ∧ oe.data = .fields vs ∧ vs[1]? = some (.ref T) ∧ base.get? T = none ∧ T ≠ e ∧ h.get? T = some oT ∧ oT.data = .fields ts ∧ ts[3]? = some (rawInt L)
structure Flies (Γ : G) (e : Value) (s' : Shared) : Prop where
  at_ : ∃ a, e = .ref a ∧ Γ.base.get? a = none ∧ ((∃ oe vs, s'.heap.get? a = some oe ∧ oe.cls = .ref 59 ∧ oe.data = .fields vs ∧ vs[1]? = some .none) ∨ s'.heap.Traced Γ.base a (.ref 59) ∨ Noted s'.heap Γ.base Γ.L a (.ref 59))
  bs : Γ.base.StaysIn s'.heap
  bf : s'.heap.FunFrames Γ.base (Γ.fe :: Γ.outer)
  sl : ∀ b o, Γ.g.get? b = some o → (∀ vs, o.data ≠ .fields vs) → ∃ sl, s'.heap.get? b = some { o with slots := sl }
  gens : s'.gens = Γ.s₀.gens
  drawn : s'.drawn = Γ.s₀.drawn
  os : s'.os = Γ.s₀.os
def Ct (w : World) (f : Addr) (vs : List Value) (facts : Heap → Prop) (news : List (Addr × Obj)) (P : Value → List (Addr × Obj) → Prop) (may : Prop) (k : Nat) : Prop :=
  ∀ A outer base g s (Q E : Value → Shared → Prop), Pre w A outer base g news s → Room A k → facts g → (∀ v n s', P v n → Back g n s s' → Q v s') → (may → ∀ e s', Thrown g base outer s e s' → E e s') →
    wpAny (model prg w) A (call (.ref f) vs) Q E s
def Ends (Γ : G) (P : Value → List (Addr × Obj) → Prop) (fl : Flow) (s : Shared) : Prop := ∃ l n, Cx Γ l n s ∧ P (match fl with | .ret v => v | _ => .none) n
structure FI where
  f : Addr
  code : Addr
  p : List Nat
  nm : String
  qn : String
  dV : Value
  pm : Value
noncomputable abbrev FI.fdt (F : FI) : FuncData := fd F.p F.nm F.qn 3 [] F.dV .none .none F.pm none (.ref F.code) .none 0
noncomputable abbrev FI.obj (F : FI) : Obj := ⟨.type "function", none, .func F.fdt, #[]⟩
structure FI.Good (F : FI) : Prop where
  k : ∀ P, (KL P).lookup F.f = some F.obj
  c : ∀ P, codeIn (KL P) (.ref F.code) (Str.ofString F.qn) = true
  nc : ((fS F.p).names.all fun x => x.2 != .cell) = true
  co : (fS F.p).isCoroutine = false
  ge : (fS F.p).isGenerator = false
  kd : (fS F.p).kind = .function
noncomputable abbrev FI.env (F : FI) (L : Addr) : Env := fEnv F.p F.qn F.f F.code L
section
variable {M : Model} {A : Around} {E : Value → Shared → Prop} {s : Shared} {base : Heap} {env : Env} {outer : List Env} {L e : Addr} {cls : Value} {oe : Obj} {vs : Array Value}
def NotedTo (base : Heap) (l : List Env) (L e : Addr) (cls : Value) (h h' : Heap) : Prop :=
  base.StaysIn h' ∧ h'.FunFrames base l ∧ Noted h' base L e cls ∧ ∀ b o, h.get? b = some o → (∀ vs, o.data ≠ .fields vs) → ∃ sl, h'.get? b = some { o with slots := sl }
theorem newEntry_noted {head : Value} {hadNext : Bool} {Q : Unit → Shared → Prop}
    (hfr : A.frames = some (env :: outer)) (hl : s.heap.FunFrames base (env :: outer)) (hf : env.frame = some L)
    (he : s.heap.get? e = some oe) (hkb : base.StaysIn s.heap) (hen : base.get? e = none) (hd : oe.data = .fields vs) (hsz : 1 < vs.size)
    (h : ∀ h', NotedTo base (env :: outer) L e oe.cls s.heap h' → Q () { s with heap := h' }) :
    wpAny M A (do let a ← frameOf env; let pl ← entryPlaceOf L hadNext; let b ← EntryCells.newEntry head a .none (rawInt L) .none pl; setField (.ref e) 1 b) Q E s := by
  have hene : e ∉ (env :: outer).filterMap (·.frame) := fun hm => by
    walk_at "h"
    obtain ⟨_, o, ho, hnf⟩ := hl.mem hm
    walk_at "u"
    rw [he] at ho; injection ho with ho; subst ho; exact hnf vs hd
  refine wpAny_bind (wpAny_frameOf_fun hfr hl hf fun h₁ hs₁ => ?_)
  refine wpAny_bind (wpAny_entryPlaceOf fun pl hpl => ?_)
  unfold EntryCells.newEntry newFields
  refine wpAny_bind (wpAny_newObj_type ?_ (hpl.sizeOk5 _ _ _ _ _))
  have he₁ : h₁.get? e = some oe := (hs₁.2.1 e hene).trans he
  have kb₁ : base.StaysIn h₁ := fun b o hbo => (hs₁.2.1 b fun hm => by rw [(hl.mem hm).1] at hbo; cases hbo).trans (hkb b o hbo)
  have he₂ := Heap.get?_push_of_some (h := h₁) { cls := .type "traceback", dict := none, data := .fields ([head, .ref L, .none, rawInt L, .none] ++ (if pl.isEmpty then List.replicate 6 Value.none else pl)).toArray } he₁
  refine wpAny_setField he₂ hd hsz (h _ ?_)
  have hTe : h₁.objs.size ≠ e := Nat.ne_of_gt (Heap.lt_size he₁)
  have hd₃ := Obj.data_mapFields hd (·.setIfInBounds 1 (Value.ref h₁.objs.size))
  have he₃ := Heap.get?_update_self (Obj.mapFields (·.setIfInBounds 1 (Value.ref h₁.objs.size))) he₂ (Obj.isFreed_of_fields hd₃)
  have hT₃ := (Heap.get?_update_other (h₁.push { cls := .type "traceback", dict := none, data := .fields ([head, .ref L, .none, rawInt L, .none] ++ (if pl.isEmpty then List.replicate 6 Value.none else pl)).toArray })
    (Obj.mapFields (·.setIfInBounds 1 (Value.ref h₁.objs.size))) (Ne.symm hTe)).trans (Heap.get?_push_size h₁ rfl)
  have keep : ∀ b o, b ≠ e → h₁.get? b = some o →
      ((h₁.push { cls := .type "traceback", dict := none, data := .fields ([head, .ref L, .none, rawInt L, .none] ++ (if pl.isEmpty then List.replicate 6 Value.none else pl)).toArray }).update e (Obj.mapFields (·.setIfInBounds 1 (Value.ref h₁.objs.size)))).get? b = some o := fun b o hbe hb => by
    rw [Heap.get?_update_other _ _ (Ne.symm hbe)]
    exact Heap.get?_push_of_some _ hb
  have noRecord : ∀ b o, s.heap.get? b = some o → (∀ vs, o.data ≠ .fields vs) → b ≠ e := fun b o hb hnf q => by
    rw [q, he] at hb; injection hb with hb; subst hb; exact hnf vs hd
  refine ⟨fun b o hbo => keep b o (fun q => by rw [q, hen] at hbo; cases hbo) (kb₁ b o hbo), hl.of_keeps fun b o hb hnf => ?_, ?_, fun b o hb hnf => ?_⟩
  · obtain ⟨sl, hs⟩ := hs₁.2.2 b o hb
    exact ⟨_, keep b _ (noRecord b o hb hnf) hs, rfl⟩
  · exact ⟨_, _, h₁.objs.size, _, _, he₃, Obj.cls_mapFields _ _, hd₃, by simp [hsz], kb₁.fresh, hTe, hT₃, rfl, by simp⟩
  · obtain ⟨sl, hs⟩ := hs₁.2.2 b o hb
    exact ⟨sl, keep b _ (noRecord b o hb hnf) hs⟩
theorem note_first {Q : Unit → Shared → Prop} (hfr : A.frames = some (env :: outer)) (hl : s.heap.FunFrames base (env :: outer)) (hf : env.frame = some L)
    (he : s.heap.get? e = some oe) (hkb : base.StaysIn s.heap) (hen : base.get? e = none) (hd : oe.data = .fields vs) (h1 : vs[1]? = some .none)
    (h : ∀ h', NotedTo base (env :: outer) L e oe.cls s.heap h' → Q () { s with heap := h' }) : wpAny M A (noteFrame (.ref e) env) Q E s := by
  unfold noteFrame
  simp only [hf]
  refine wpAny_bind (wpAny_field he hd h1 ?_)
  rw [if_neg (by decide)]
  exact newEntry_noted hfr hl hf he hkb hen hd (Array.getElem?_eq_some_iff.mp h1).1 h
theorem note_next {Q : Unit → Shared → Prop} (hfr : A.frames = some (env :: outer)) (hl : s.heap.FunFrames base (env :: outer)) (hf : env.frame = some L) (ht : s.heap.Traced base e cls) (hkb : base.StaysIn s.heap) (hen : base.get? e = none)
    (h : ∀ h', NotedTo base (env :: outer) L e cls s.heap h' → Q () { s with heap := h' }) : wpAny M A (noteFrame (.ref e) env) Q E s := by
  walk_at "h"
  obtain ⟨oe, vs, T, oT, ts, he, hcls, hd, h1, hnT, hTe, hT, hdT, h3⟩ := ht
  walk_at "u"
  subst hcls
  unfold noteFrame
  simp only [hf]
  refine wpAny_bind (wpAny_field he hd h1 ?_)
  rw [if_pos (show (Value.ref T != Value.none) = true from by simp)]
  refine wpAny_bind (wpAny_field hT hdT h3 ?_)
  rw [if_neg (show ¬ ((Value.none == rawInt L) = true) from by simp [rawInt])]
  refine wpAny_bind (wpAny_setField hT hdT (Array.getElem?_eq_some_iff.mp h3).1 ?_)
  have other : ∀ b, b ≠ T → (s.heap.update T (Obj.mapFields (·.setIfInBounds 3 Value.none))).get? b = s.heap.get? b := fun b hb => Heap.get?_update_other _ _ (Ne.symm hb)
  have noRecord : ∀ b o, s.heap.get? b = some o → (∀ vs, o.data ≠ .fields vs) → b ≠ T := fun b o hb hnf q => by
    rw [q, hT] at hb; injection hb with hb; subst hb; exact hnf ts hdT
  refine newEntry_noted hfr (hl.of_keeps fun b o hb hnf => ⟨o, (other b (noRecord b o hb hnf)).trans hb, rfl⟩) hf ((other e (Ne.symm hTe)).trans he)
    (fun b o hbo => (other b fun q => by rw [q, hnT] at hbo; cases hbo).trans (hkb b o hbo)) hen hd (Array.getElem?_eq_some_iff.mp h1).1
    fun h' ⟨x1, x2, x3, x4⟩ => h h' ⟨x1, x2, x3, fun b o hb hnf => x4 b o ((other b (noRecord b o hb hnf)).trans hb) hnf⟩
theorem note_again {Q : Unit → Shared → Prop} (hf : env.frame = some L) (ht : Noted s.heap base L e cls) (h : Q () s) : wpAny M A (noteFrame (.ref e) env) Q E s := by
  walk_at "h"
  obtain ⟨oe, vs, T, oT, ts, he, hcls, hd, h1, hnT, hTe, hT, hdT, h3⟩ := ht
  walk_at "u"
  unfold noteFrame
  simp only [hf]
  refine wpAny_bind (wpAny_field he hd h1 ?_)
  rw [if_pos (show (Value.ref T != Value.none) = true from by simp)]
  refine wpAny_bind (wpAny_field hT hdT h3 ?_)
  rw [if_pos (show (rawInt L == rawInt L) = true from by simp)]
  exact wpAny_pure h
theorem flight_set {Q : Unit → Shared → Prop} {fr : Option Addr} (ht : Noted s.heap base L e cls) (hl : s.heap.FunFrames base (env :: outer)) (hkb : base.StaysIn s.heap)
    (h : ∀ h', (base.StaysIn h' ∧ h'.FunFrames base (env :: outer) ∧ (∃ oe vs T oT ts, h'.get? e = some oe ∧ oe.cls = cls ∧ oe.data = .fields vs ∧ vs[1]? = some (.ref T) ∧ base.get? T = none ∧ T ≠ e ∧ h'.get? T = some oT ∧ oT.data = .fields ts ∧ ts[3]? = some (fr.elim .none fun f => rawInt f)) ∧
      ∀ b o, s.heap.get? b = some o → (∀ vs, o.data ≠ .fields vs) → h'.get? b = some o) → Q () { s with heap := h' }) : wpAny M A (setFlight (.ref e) fr) Q E s := by
  walk_at "h"
  obtain ⟨oe, vs, T, oT, ts, he, hcls, hd, h1, hnT, hTe, hT, hdT, h3⟩ := ht
  walk_at "u"
  unfold setFlight
  refine wpAny_bind (wpAny_field he hd h1 ?_)
  rw [if_pos (show (Value.ref T != Value.none) = true from by simp)]
  have lt := (Array.getElem?_eq_some_iff.mp h3).1
  refine wpAny_setField hT hdT lt (h _ ?_)
  have other : ∀ b, b ≠ T → (s.heap.update T (Obj.mapFields (·.setIfInBounds 3 (fr.elim Value.none fun f => rawInt f)))).get? b = s.heap.get? b := fun b hb => Heap.get?_update_other _ _ (Ne.symm hb)
  have noRecord : ∀ b o, s.heap.get? b = some o → (∀ vs, o.data ≠ .fields vs) → b ≠ T := fun b o hb hnf q => by
    rw [q, hT] at hb; injection hb with hb; subst hb; exact hnf ts hdT
  refine ⟨fun b o hbo => (other b fun q => by rw [q, hnT] at hbo; cases hbo).trans (hkb b o hbo), hl.of_keeps fun b o hb hnf => ⟨o, (other b (noRecord b o hb hnf)).trans hb, rfl⟩, ?_, fun b o hb hnf => (other b (noRecord b o hb hnf)).trans hb⟩
  exact ⟨oe, vs, T, _, _, (other e (Ne.symm hTe)).trans he, hcls, hd, h1, hnT, hTe, Heap.get?_update_self _ hT (Obj.isFreed_of_fields (Obj.data_mapFields hdT _)), Obj.data_mapFields hdT _, by simp [lt]⟩
end
theorem Flies.leave {Γ : G} {e : Value} {s' : Shared} {Q : Unit → Shared → Prop} {E : Value → Shared → Prop} (O : Γ.Ok) (F : Flies Γ e s') (k : ∀ s'', Thrown Γ.g Γ.base Γ.outer Γ.s₀ e s'' → Q () s'') (hlo : Γ.env.locals = Γ.L := by rfl) :
    wpAny (model prg Γ.w) Γ.A (leaving Γ.env e) Q E s' := by
  rw [← O.own hlo]
  walk_at "h"
  obtain ⟨⟨a, rfl, hn, hx⟩, bs, bf, sl, gn, dr, os⟩ := F
  walk_at "u"
  have fin : ∀ h', Heap.Left Γ.base (Γ.fe :: Γ.outer) a (.ref 59) s'.heap h' → Thrown Γ.g Γ.base Γ.outer Γ.s₀ (.ref a) { s' with heap := h' } := fun h' hL => by
    walk_at "h"
    obtain ⟨k1, ⟨_, _, k2⟩, k3, k4⟩ := hL
    walk_at "u"
    refine ⟨⟨a, rfl, hn, k3⟩, k1, k2, fun b o hb hnf => ?_, gn, dr, os⟩
    obtain ⟨s1, h1⟩ := sl b o hb hnf
    obtain ⟨s2, h2⟩ := k4 b _ h1 hnf
    exact ⟨s2, h2⟩
  rcases hx with ⟨oe, vs, h1, h2, h3, h4⟩ | ht | ht
  · exact wpAny_leaving_first O.hA bf O.fr h1 bs hn h3 h4 fun h' hL => k _ (fin h' (h2 ▸ hL))
  · exact wpAny_leaving_next O.hA bf O.fr ht bs hn fun h' hL => k _ (fin h' hL)
  · unfold leaving
    refine wpAny_bind (note_again O.fr ht (flight_set ht bf bs fun h' hL => k _ ?_))
    walk_at "h"
    obtain ⟨k1, k2, k3, k4⟩ := hL
    walk_at "u"
    exact fin h' ⟨k1, k2, k3, fun b o hb hnf => ⟨o.slots, k4 b o hb hnf⟩⟩
theorem Flies.note {Γ : G} {e : Value} {s' : Shared} {Q : Unit → Shared → Prop} {E : Value → Shared → Prop} (O : Γ.Ok) (F : Flies Γ e s') (k : ∀ s'' a, e = .ref a → Noted s''.heap Γ.base Γ.L a (.ref 59) → Flies Γ e s'' → Q () s'') (hlo : Γ.env.locals = Γ.L := by rfl) :
    wpAny (model prg Γ.w) Γ.A (noteFrame e Γ.env) Q E s' := by
  rw [← O.own hlo]
  walk_at "h"
  obtain ⟨⟨a, rfl, hn, hx⟩, bs, bf, sl, gn, dr, os⟩ := F
  walk_at "u"
  have fin : ∀ h', NotedTo Γ.base (Γ.fe :: Γ.outer) Γ.L a (.ref 59) s'.heap h' → Q () { s' with heap := h' } := fun h' hL => by
    walk_at "h"
    obtain ⟨k1, k2, k3, k4⟩ := hL
    walk_at "u"
    refine k _ a rfl k3 ⟨⟨a, rfl, hn, .inr (.inr k3)⟩, k1, k2, fun b o hb hnf => ?_, gn, dr, os⟩
    obtain ⟨s1, h1⟩ := sl b o hb hnf
    obtain ⟨s2, h2⟩ := k4 b _ h1 hnf
    exact ⟨s2, h2⟩
  rcases hx with ⟨oe, vs, h1, h2, h3, h4⟩ | ht | ht
  · exact note_first O.hA bf O.fr h1 bs hn h3 h4 fun h' hL => fin h' (h2 ▸ hL)
  · exact note_next O.hA bf O.fr ht bs hn fun h' hL => fin h' hL
  · exact note_again O.fr ht (k _ a rfl ht ⟨⟨a, rfl, hn, .inr (.inr ht)⟩, bs, bf, sl, gn, dr, os⟩)
theorem Flies.own {Γ : G} {e : Value} {a : Addr} {s' : Shared} {Q : Unit → Shared → Prop} {E : Value → Shared → Prop} (O : Γ.Ok) (F : Flies Γ e s') (ha : e = .ref a) (ht : Noted s'.heap Γ.base Γ.L a (.ref 59)) (k : ∀ s'', Flies Γ e s'' → Q () s'') (hlo : Γ.env.locals = Γ.L := by rfl) :
    wpAny (model prg Γ.w) Γ.A (do
      if (← field e 1) == .none then unsupported "frame.own-activation:exception-without-traceback"
      setFlight e Γ.env.frame) Q E s' := by
  subst ha
  walk_at "h"
  obtain ⟨⟨a', ha', hn, _⟩, bs, bf, sl, gn, dr, os⟩ := F
  walk_at "u"
  cases ha'
  walk_at "h"
  obtain ⟨oe, vs, T, oT, ts, he, hcls, hd, h1, r⟩ := id ht
  walk_at "u"
  refine wpAny_bind (wpAny_field he hd h1 ?_)
  rw [if_neg (show ¬ ((Value.ref T == Value.none) = true) from by simp)]
  rw [← O.own hlo, O.fr]
  refine flight_set ht bf bs fun h' hL => k _ ?_
  walk_at "h"
  obtain ⟨k1, k2, k3, k4⟩ := hL
  walk_at "u"
  exact ⟨⟨_, rfl, hn, .inr (.inr k3)⟩, k1, k2, fun b o hb hnf => by
    obtain ⟨s1, h1⟩ := sl b o hb hnf
    exact ⟨s1, k4 b _ h1 hnf⟩, gn, dr, os⟩
theorem ct_def {w : World} {F : FI} {vs : List Value} {binds : List (Str × Value)} {facts : Heap → Prop} {news : List (Addr × Obj)} {P : Value → List (Addr × Obj) → Prop} {may : Prop} {k : Nat} (G : F.Good)
    (hbind : bindArgs F.fdt ⟨vs, []⟩ = pure binds)
    (hloc : (binds.all fun x => decide ((fS F.p).names.lookup x.1 = some .local)) = true) (hdup : decide (binds.map (·.1)).Nodup = true)
    (body : ∀ A s₀ g L outer base, facts g → Room A k → Ex ⟨w, A, s₀, g, L, outer, base, F.env L⟩ binds news (fB F.p) (Ends ⟨w, A, s₀, g, L, outer, base, F.env L⟩ P) (fun e s => may ∧ Flies ⟨w, A, s₀, g, L, outer, base, F.env L⟩ e s)) :
    Ct w F.f vs facts news P may (k + 1) := fun A outer base g s Q E Pr room hf hQ hE => by
  refine wpAny_call (enter (binds := binds) Pr (by have := room.1; omega) (by have := room.2; omega) (G.k _) (G.c _) (BindsTo.of_eq hbind) hloc G.nc G.co G.ge G.kd (of_decide_eq_true hdup) fun L s₁ C₁ => ?_)
  refine wpAny_mono (body (A.deeper (F.env L)) s g L outer base hf ⟨?_, ?_⟩ s₁ C₁) (fun fl s' h => ?_) (fun e s' h => ?_)
  · have := room.1; show A.depth + 1 + 2 * k < 590; omega
  · have := room.2; show A.units + 3 + 20 * k < 8990; omega
  · walk_at "h"
    obtain ⟨l', n, C', hP⟩ := h
    walk_at "u"
    exact hQ _ n s' hP C'.back_of
  · exact h.2.leave C₁.ok fun s'' T => hE h.1 _ s'' T
section
variable {Γ : G} {l : List (Str × Value)} {news news' fz : List (Addr × Obj)} {s s' : Shared}
theorem Cx.preF (C : Cx Γ l (news ++ fz) s) : Pre Γ.w Γ.A (Γ.fe :: Γ.outer) Γ.base (gOf s news) news s := (C.drop (List.sublist_append_left _ _)).pre
theorem Cx.frozen (C : Cx Γ l (news ++ fz) s) {p : Addr × Obj} (hp : p ∈ fz) : (gOf s news).get? p.1 = some p.2 :=
  hideAll_get _ (C.obj (List.mem_append_right _ hp)) fun q => by
    have nd := C.nd
    rw [List.map_append, List.nodup_append] at nd
    exact nd.2.2 _ q _ (List.mem_map_of_mem hp) rfl
theorem Cx.afterF (C : Cx Γ l (news ++ fz) s) (B : Back (gOf s news) news' s s') : Cx Γ l (news' ++ fz) s' := by
  have C' := (C.drop (List.sublist_append_left _ _)).after B
  refine ⟨C'.ok, C'.fr, fun p hp => ?_, ?_, C'.gens, C'.drawn, C'.os⟩
  · rcases List.mem_append.mp hp with h | h
    · exact C'.nw p h
    · have := C.nw p (List.mem_append_right _ h)
      exact ⟨B.keep _ _ (C.frozen h), this.2⟩
  · have nd := C.nd
    rw [List.map_append, List.nodup_append] at nd ⊢
    refine ⟨C'.nd, nd.2.1, fun a ha b hb e => ?_⟩
    obtain ⟨p, hp, rfl⟩ := List.mem_map.mp ha
    obtain ⟨q, hq, rfl⟩ := List.mem_map.mp hb
    have h1 := (B.mu p hp).2
    have h2 := C.frozen hq
    rw [← e, h1] at h2; cases h2
theorem Cx.flies {e : Value} (C : Cx Γ l (news ++ fz) s) (T : Thrown (gOf s news) Γ.base (Γ.fe :: Γ.outer) s e s') : Flies Γ e s' := by
  walk_at "h"
  obtain ⟨⟨a, he, hn, ht⟩, bs, bf, sl, gn, dr, os⟩ := T
  walk_at "u"
  exact ⟨⟨a, he, hn, .inr (.inl ht)⟩, bs, bf, fun b o hb hnf => sl b o ((C.drop (List.sublist_append_left _ _)).g_le hb) hnf, gn.trans C.gens, dr.trans C.drawn, os.trans C.os⟩
end
section
variable {Γ : G} {l : List (Str × Value)} {news : List (Addr × Obj)}
noncomputable abbrev pent (P : Params) (tk : Nat → Tok) (sh re op st pi fl pa ru tx sk mo mk cp : Value) : List DictEntry :=
  [E P "shelf" (tk 0) sh, E P "resources" (tk 1) re, E P "opener" (tk 2) op, E P "state" (tk 3) st, E P "pile" (tk 4) pi, E P "floor" (tk 5) fl, E P "path" (tk 6) pa, E P "rule" (tk 7) ru, E P "text" (tk 8) tx, E P "skips" (tk 9) sk,
   E P "open_forms" (tk 10) mo, E P "marks" (tk 11) mk, E P "clips" (tk 12) cp]
def Unit0 (h : Heap) (a : Addr) : Prop := ∃ n, h.get? a = some ⟨.type "tuple", none, .seq #[] n, #[]⟩
end
noncomputable abbrev F_decimal_of : FI := ⟨180, 179, [8], "decimal_of", "decimal_of", .none, (S "paperhold.decimals" 252)⟩
theorem G_decimal_of : F_decimal_of.Good := ⟨fun P => by kernel_rfl, fun P => by kernel_rfl, by kernel_rfl, by kernel_rfl, by kernel_rfl, by kernel_rfl⟩
noncomputable abbrev F_identity : FI := ⟨454, 453, [25], "identity", "identity", .none, (S "paperhold.matrix" 686)⟩
theorem G_identity : F_identity.Good := ⟨fun P => by kernel_rfl, fun P => by kernel_rfl, by kernel_rfl, by kernel_rfl, by kernel_rfl, by kernel_rfl⟩
noncomputable abbrev F_first_colour : FI := ⟨608, 607, [45], "first_colour", "first_colour", .none, (S "paperhold.inks" 946)⟩
theorem G_first_colour : F_first_colour.Good := ⟨fun P => by kernel_rfl, fun P => by kernel_rfl, by kernel_rfl, by kernel_rfl, by kernel_rfl, by kernel_rfl⟩
noncomputable abbrev F_first_values : FI := ⟨615, 614, [46], "first_values", "first_values", .none, (S "paperhold.inks" 946)⟩
theorem G_first_values : F_first_values.Good := ⟨fun P => by kernel_rfl, fun P => by kernel_rfl, by kernel_rfl, by kernel_rfl, by kernel_rfl, by kernel_rfl⟩
noncomputable abbrev F_first_state : FI := ⟨623, 622, [47], "first_state", "first_state", (R 616), (S "paperhold.inks" 946)⟩
theorem G_first_state : F_first_state.Good := ⟨fun P => by kernel_rfl, fun P => by kernel_rfl, by kernel_rfl, by kernel_rfl, by kernel_rfl, by kernel_rfl⟩
noncomputable abbrev F_copied_state : FI := ⟨630, 629, [48], "copied_state", "copied_state", .none, (S "paperhold.inks" 946)⟩
theorem G_copied_state : F_copied_state.Good := ⟨fun P => by kernel_rfl, fun P => by kernel_rfl, by kernel_rfl, by kernel_rfl, by kernel_rfl, by kernel_rfl⟩
noncomputable abbrev F_name_of : FI := ⟨642, 641, [50], "name_of", "name_of", .none, (S "paperhold.inks" 946)⟩
theorem G_name_of : F_name_of.Good := ⟨fun P => by kernel_rfl, fun P => by kernel_rfl, by kernel_rfl, by kernel_rfl, by kernel_rfl, by kernel_rfl⟩
noncomputable abbrev F_paint_all : FI := ⟨750, 749, [76], "paint_all", "paint_all", .none, (S "paperhold.painter" 1113)⟩
theorem G_paint_all : F_paint_all.Good := ⟨fun P => by kernel_rfl, fun P => by kernel_rfl, by kernel_rfl, by kernel_rfl, by kernel_rfl, by kernel_rfl⟩
noncomputable abbrev F_put_mark : FI := ⟨757, 756, [77], "put_mark", "put_mark", .none, (S "paperhold.painter" 1113)⟩
theorem G_put_mark : F_put_mark.Good := ⟨fun P => by kernel_rfl, fun P => by kernel_rfl, by kernel_rfl, by kernel_rfl, by kernel_rfl, by kernel_rfl⟩
noncomputable abbrev F_check_place : FI := ⟨764, 763, [78], "check_place", "check_place", .none, (S "paperhold.painter" 1113)⟩
theorem G_check_place : F_check_place.Good := ⟨fun P => by kernel_rfl, fun P => by kernel_rfl, by kernel_rfl, by kernel_rfl, by kernel_rfl, by kernel_rfl⟩
noncomputable abbrev F_perform : FI := ⟨771, 770, [79], "perform", "perform", .none, (S "paperhold.painter" 1113)⟩
theorem G_perform : F_perform.Good := ⟨fun P => by kernel_rfl, fun P => by kernel_rfl, by kernel_rfl, by kernel_rfl, by kernel_rfl, by kernel_rfl⟩
noncomputable abbrev F_do_other : FI := ⟨778, 777, [80], "do_other", "do_other", .none, (S "paperhold.painter" 1113)⟩
theorem G_do_other : F_do_other.Good := ⟨fun P => by kernel_rfl, fun P => by kernel_rfl, by kernel_rfl, by kernel_rfl, by kernel_rfl, by kernel_rfl⟩
noncomputable abbrev F_named : FI := ⟨799, 798, [83], "named", "named", .none, (S "paperhold.painter" 1113)⟩
theorem G_named : F_named.Good := ⟨fun P => by kernel_rfl, fun P => by kernel_rfl, by kernel_rfl, by kernel_rfl, by kernel_rfl, by kernel_rfl⟩
noncomputable abbrev F_do_object : FI := ⟨867, 866, [93], "do_object", "do_object", .none, (S "paperhold.painter" 1113)⟩
theorem G_do_object : F_do_object.Good := ⟨fun P => by kernel_rfl, fun P => by kernel_rfl, by kernel_rfl, by kernel_rfl, by kernel_rfl, by kernel_rfl⟩
noncomputable abbrev F_form_numbers : FI := ⟨872, 871, [94], "form_numbers", "form_numbers", .none, (S "paperhold.painter" 1113)⟩
noncomputable abbrev F_enter_form : FI := ⟨879, 878, [95], "enter_form", "enter_form", .none, (S "paperhold.painter" 1113)⟩
theorem G_enter_form : F_enter_form.Good := ⟨fun P => by kernel_rfl, fun P => by kernel_rfl, by kernel_rfl, by kernel_rfl, by kernel_rfl, by kernel_rfl⟩
noncomputable abbrev F_do_form : FI := ⟨886, 885, [96], "do_form", "do_form", .none, (S "paperhold.painter" 1113)⟩
theorem G_do_form : F_do_form.Good := ⟨fun P => by kernel_rfl, fun P => by kernel_rfl, by kernel_rfl, by kernel_rfl, by kernel_rfl, by kernel_rfl⟩
noncomputable abbrev F_law_source : FI := ⟨917, 916, [100], "_law_source", "_law_source", .none, (S "law_qd0133_01" 1520)⟩
theorem G_law_source : F_law_source.Good := ⟨fun P => by kernel_rfl, fun P => by kernel_rfl, by kernel_rfl, by kernel_rfl, by kernel_rfl, by kernel_rfl⟩
noncomputable abbrev F_law_take : FI := ⟨924, 923, [101], "_law_take", "_law_take", .none, (S "law_qd0133_01" 1520)⟩
theorem G_law_take : F_law_take.Good := ⟨fun P => by kernel_rfl, fun P => by kernel_rfl, by kernel_rfl, by kernel_rfl, by kernel_rfl, by kernel_rfl⟩
noncomputable abbrev F_law_wishes : FI := ⟨929, 928, [102], "_law_wishes", "_law_wishes", .none, (S "law_qd0133_01" 1520)⟩
noncomputable abbrev F_law_names : FI := ⟨936, 935, [103], "_law_names", "_law_names", .none, (S "law_qd0133_01" 1520)⟩
theorem G_law_names : F_law_names.Good := ⟨fun P => by kernel_rfl, fun P => by kernel_rfl, by kernel_rfl, by kernel_rfl, by kernel_rfl, by kernel_rfl⟩
noncomputable abbrev F_law_entries : FI := ⟨943, 942, [104], "_law_entries", "_law_entries", .none, (S "law_qd0133_01" 1520)⟩
theorem G_law_entries : F_law_entries.Good := ⟨fun P => by kernel_rfl, fun P => by kernel_rfl, by kernel_rfl, by kernel_rfl, by kernel_rfl, by kernel_rfl⟩
noncomputable abbrev F_law_rows : FI := ⟨948, 947, [105], "_law_rows", "_law_rows", .none, (S "law_qd0133_01" 1520)⟩
theorem G_law_rows : F_law_rows.Good := ⟨fun P => by kernel_rfl, fun P => by kernel_rfl, by kernel_rfl, by kernel_rfl, by kernel_rfl, by kernel_rfl⟩
noncomputable abbrev F_law_walk : FI := ⟨955, 954, [106], "_law_walk", "_law_walk", .none, (S "law_qd0133_01" 1520)⟩
theorem G_law_walk : F_law_walk.Good := ⟨fun P => by kernel_rfl, fun P => by kernel_rfl, by kernel_rfl, by kernel_rfl, by kernel_rfl, by kernel_rfl⟩
noncomputable abbrev F_law_is_let : FI := ⟨962, 961, [107], "_law_is_let", "_law_is_let", .none, (S "law_qd0133_01" 1520)⟩
theorem G_law_is_let : F_law_is_let.Good := ⟨fun P => by kernel_rfl, fun P => by kernel_rfl, by kernel_rfl, by kernel_rfl, by kernel_rfl, by kernel_rfl⟩
noncomputable abbrev F_law : FI := ⟨967, 966, [108], "law", "law", .none, (S "law_qd0133_01" 1520)⟩
noncomputable abbrev F_PaperError_init : FI := ⟨36, 35, [2, 0], "__init__", "PaperError.__init__", (R 29), (S "paperhold.errors" 194)⟩
theorem G_PaperError_init : F_PaperError_init.Good := ⟨fun P => by kernel_rfl, fun P => by kernel_rfl, by kernel_rfl, by kernel_rfl, by kernel_rfl, by kernel_rfl⟩
noncomputable abbrev F_Decimal_init : FI := ⟨75, 74, [5, 0], "__init__", "Decimal.__init__", .none, (S "paperhold.decimals" 252)⟩
theorem G_Decimal_init : F_Decimal_init.Good := ⟨fun P => by kernel_rfl, fun P => by kernel_rfl, by kernel_rfl, by kernel_rfl, by kernel_rfl, by kernel_rfl⟩
noncomputable abbrev F_Name_init : FI := ⟨201, 200, [12, 0], "__init__", "Name.__init__", .none, (S "paperhold.objects" 410)⟩
theorem G_Name_init : F_Name_init.Good := ⟨fun P => by kernel_rfl, fun P => by kernel_rfl, by kernel_rfl, by kernel_rfl, by kernel_rfl, by kernel_rfl⟩
noncomputable abbrev F_String_init : FI := ⟨223, 222, [13, 0], "__init__", "String.__init__", (R 216), (S "paperhold.objects" 410)⟩
theorem G_String_init : F_String_init.Good := ⟨fun P => by kernel_rfl, fun P => by kernel_rfl, by kernel_rfl, by kernel_rfl, by kernel_rfl, by kernel_rfl⟩
noncomputable abbrev F_Stream_init : FI := ⟨244, 243, [14, 0], "__init__", "Stream.__init__", .none, (S "paperhold.objects" 410)⟩
theorem G_Stream_init : F_Stream_init.Good := ⟨fun P => by kernel_rfl, fun P => by kernel_rfl, by kernel_rfl, by kernel_rfl, by kernel_rfl, by kernel_rfl⟩
noncomputable abbrev F_Reference_init : FI := ⟨265, 264, [15, 0], "__init__", "Reference.__init__", .none, (S "paperhold.objects" 410)⟩
theorem G_Reference_init : F_Reference_init.Good := ⟨fun P => by kernel_rfl, fun P => by kernel_rfl, by kernel_rfl, by kernel_rfl, by kernel_rfl, by kernel_rfl⟩
noncomputable abbrev F_Reference_pair : FI := ⟨272, 271, [15, 1], "pair", "Reference.pair", .none, (S "paperhold.objects" 410)⟩
theorem G_Reference_pair : F_Reference_pair.Good := ⟨fun P => by kernel_rfl, fun P => by kernel_rfl, by kernel_rfl, by kernel_rfl, by kernel_rfl, by kernel_rfl⟩
noncomputable abbrev F_Lookup_init : FI := ⟨320, 319, [21, 0], "__init__", "Lookup.__init__", (R 313), (S "paperhold.objects" 410)⟩
theorem G_Lookup_init : F_Lookup_init.Good := ⟨fun P => by kernel_rfl, fun P => by kernel_rfl, by kernel_rfl, by kernel_rfl, by kernel_rfl, by kernel_rfl⟩
noncomputable abbrev F_Lookup_fetch : FI := ⟨327, 326, [21, 1], "fetch", "Lookup.fetch", .none, (S "paperhold.objects" 410)⟩
theorem G_Lookup_fetch : F_Lookup_fetch.Good := ⟨fun P => by kernel_rfl, fun P => by kernel_rfl, by kernel_rfl, by kernel_rfl, by kernel_rfl, by kernel_rfl⟩
noncomputable abbrev F_Lookup_get : FI := ⟨334, 333, [21, 2], "get", "Lookup.get", .none, (S "paperhold.objects" 410)⟩
theorem G_Lookup_get : F_Lookup_get.Good := ⟨fun P => by kernel_rfl, fun P => by kernel_rfl, by kernel_rfl, by kernel_rfl, by kernel_rfl, by kernel_rfl⟩
noncomputable abbrev F_Shelf_put : FI := ⟨355, 354, [22, 0], "put", "Shelf.put", .none, (S "paperhold.objects" 410)⟩
theorem G_Shelf_put : F_Shelf_put.Good := ⟨fun P => by kernel_rfl, fun P => by kernel_rfl, by kernel_rfl, by kernel_rfl, by kernel_rfl, by kernel_rfl⟩
noncomputable abbrev F_Matrix_init : FI := ⟨407, 406, [24, 0], "__init__", "Matrix.__init__", .none, (S "paperhold.matrix" 686)⟩
theorem G_Matrix_init : F_Matrix_init.Good := ⟨fun P => by kernel_rfl, fun P => by kernel_rfl, by kernel_rfl, by kernel_rfl, by kernel_rfl, by kernel_rfl⟩
noncomputable abbrev F_Path_init : FI := ⟨477, 476, [28, 0], "__init__", "Path.__init__", (R 470), (S "paperhold.paths" 788)⟩
theorem G_Path_init : F_Path_init.Good := ⟨fun P => by kernel_rfl, fun P => by kernel_rfl, by kernel_rfl, by kernel_rfl, by kernel_rfl, by kernel_rfl⟩
noncomputable abbrev F_State_init : FI := ⟨594, 593, [44, 0], "__init__", "State.__init__", .none, (S "paperhold.inks" 946)⟩
theorem G_State_init : F_State_init.Good := ⟨fun P => by kernel_rfl, fun P => by kernel_rfl, by kernel_rfl, by kernel_rfl, by kernel_rfl, by kernel_rfl⟩
noncomputable abbrev F_Painter_init : FI := ⟨729, 728, [75, 0], "__init__", "Painter.__init__", (R 722), (S "paperhold.painter" 1113)⟩
theorem G_Painter_init : F_Painter_init.Good := ⟨fun P => by kernel_rfl, fun P => by kernel_rfl, by kernel_rfl, by kernel_rfl, by kernel_rfl, by kernel_rfl⟩
noncomputable abbrev F_Operation_init : FI := ⟨900, 899, [98, 0], "__init__", "Operation.__init__", .none, (S "paperhold.content" 1481)⟩
theorem G_Operation_init : F_Operation_init.Good := ⟨fun P => by kernel_rfl, fun P => by kernel_rfl, by kernel_rfl, by kernel_rfl, by kernel_rfl, by kernel_rfl⟩
theorem g_decimal_of (P : Params) : nsIn (KL P) mainGlobals "decimal_of" = some (some (R 180)) := by kernel_rfl
theorem g_MOST_HOPS (P : Params) : nsIn (KL P) mainGlobals "MOST_HOPS" = some (some (I 30 412)) := by kernel_rfl
theorem g_identity (P : Params) : nsIn (KL P) mainGlobals "identity" = some (some (R 454)) := by kernel_rfl
theorem g_first_colour (P : Params) : nsIn (KL P) mainGlobals "first_colour" = some (some (R 608)) := by kernel_rfl
theorem g_first_values (P : Params) : nsIn (KL P) mainGlobals "first_values" = some (some (R 615)) := by kernel_rfl
theorem g_first_state (P : Params) : nsIn (KL P) mainGlobals "first_state" = some (some (R 623)) := by kernel_rfl
theorem g_copied_state (P : Params) : nsIn (KL P) mainGlobals "copied_state" = some (some (R 630)) := by kernel_rfl
theorem g_name_of (P : Params) : nsIn (KL P) mainGlobals "name_of" = some (some (R 642)) := by kernel_rfl
theorem g_STATE_WORDS (P : Params) : nsIn (KL P) mainGlobals "STATE_WORDS" = some (some (R 702)) := by kernel_rfl
theorem g_LINE_WORDS (P : Params) : nsIn (KL P) mainGlobals "LINE_WORDS" = some (some (R 703)) := by kernel_rfl
theorem g_PATH_WORDS (P : Params) : nsIn (KL P) mainGlobals "PATH_WORDS" = some (some (R 704)) := by kernel_rfl
theorem g_CLIP_WORDS (P : Params) : nsIn (KL P) mainGlobals "CLIP_WORDS" = some (some (R 705)) := by kernel_rfl
theorem g_PAINT_WORDS (P : Params) : nsIn (KL P) mainGlobals "PAINT_WORDS" = some (some (R 706)) := by kernel_rfl
theorem g_COLOUR_WORDS (P : Params) : nsIn (KL P) mainGlobals "COLOUR_WORDS" = some (some (R 707)) := by kernel_rfl
theorem g_TEXT_WORDS (P : Params) : nsIn (KL P) mainGlobals "TEXT_WORDS" = some (some (R 708)) := by kernel_rfl
theorem g_PLACE_WORDS (P : Params) : nsIn (KL P) mainGlobals "PLACE_WORDS" = some (some (R 709)) := by kernel_rfl
theorem g_SHOW_WORDS (P : Params) : nsIn (KL P) mainGlobals "SHOW_WORDS" = some (some (R 710)) := by kernel_rfl
theorem g_paint_all (P : Params) : nsIn (KL P) mainGlobals "paint_all" = some (some (R 750)) := by kernel_rfl
theorem g_put_mark (P : Params) : nsIn (KL P) mainGlobals "put_mark" = some (some (R 757)) := by kernel_rfl
theorem g_check_place (P : Params) : nsIn (KL P) mainGlobals "check_place" = some (some (R 764)) := by kernel_rfl
theorem g_perform (P : Params) : nsIn (KL P) mainGlobals "perform" = some (some (R 771)) := by kernel_rfl
theorem g_do_other (P : Params) : nsIn (KL P) mainGlobals "do_other" = some (some (R 778)) := by kernel_rfl
theorem g_named (P : Params) : nsIn (KL P) mainGlobals "named" = some (some (R 799)) := by kernel_rfl
theorem g_do_object (P : Params) : nsIn (KL P) mainGlobals "do_object" = some (some (R 867)) := by kernel_rfl
theorem g_form_numbers (P : Params) : nsIn (KL P) mainGlobals "form_numbers" = some (some (R 872)) := by kernel_rfl
theorem g_enter_form (P : Params) : nsIn (KL P) mainGlobals "enter_form" = some (some (R 879)) := by kernel_rfl
theorem g_do_form (P : Params) : nsIn (KL P) mainGlobals "do_form" = some (some (R 886)) := by kernel_rfl
theorem g_law_source (P : Params) : nsIn (KL P) mainGlobals "_law_source" = some (some (R 917)) := by kernel_rfl
theorem g_law_take (P : Params) : nsIn (KL P) mainGlobals "_law_take" = some (some (R 924)) := by kernel_rfl
theorem g_law_wishes (P : Params) : nsIn (KL P) mainGlobals "_law_wishes" = some (some (R 929)) := by kernel_rfl
theorem g_law_names (P : Params) : nsIn (KL P) mainGlobals "_law_names" = some (some (R 936)) := by kernel_rfl
theorem g_law_entries (P : Params) : nsIn (KL P) mainGlobals "_law_entries" = some (some (R 943)) := by kernel_rfl
theorem g_law_rows (P : Params) : nsIn (KL P) mainGlobals "_law_rows" = some (some (R 948)) := by kernel_rfl
theorem g_law_walk (P : Params) : nsIn (KL P) mainGlobals "_law_walk" = some (some (R 955)) := by kernel_rfl
theorem g_law_is_let (P : Params) : nsIn (KL P) mainGlobals "_law_is_let" = some (some (R 962)) := by kernel_rfl
theorem g_PaintFault (P : Params) : nsIn (KL P) mainGlobals "PaintFault" = some (some (R 59)) := by kernel_rfl
theorem g_Decimal (P : Params) : nsIn (KL P) mainGlobals "Decimal" = some (some (R 155)) := by kernel_rfl
theorem g_Name (P : Params) : nsIn (KL P) mainGlobals "Name" = some (some (R 204)) := by kernel_rfl
theorem g_String (P : Params) : nsIn (KL P) mainGlobals "String" = some (some (R 226)) := by kernel_rfl
theorem g_Stream (P : Params) : nsIn (KL P) mainGlobals "Stream" = some (some (R 247)) := by kernel_rfl
theorem g_Reference (P : Params) : nsIn (KL P) mainGlobals "Reference" = some (some (R 275)) := by kernel_rfl
theorem g_Shelf (P : Params) : nsIn (KL P) mainGlobals "Shelf" = some (some (R 391)) := by kernel_rfl
theorem g_Matrix (P : Params) : nsIn (KL P) mainGlobals "Matrix" = some (some (R 443)) := by kernel_rfl
theorem g_Path (P : Params) : nsIn (KL P) mainGlobals "Path" = some (some (R 480)) := by kernel_rfl
theorem g_State (P : Params) : nsIn (KL P) mainGlobals "State" = some (some (R 597)) := by kernel_rfl
theorem g_Painter (P : Params) : nsIn (KL P) mainGlobals "Painter" = some (some (R 739)) := by kernel_rfl
theorem g_Operation (P : Params) : nsIn (KL P) mainGlobals "Operation" = some (some (R 908)) := by kernel_rfl
theorem b_isinstance (P : Params) : nsIn (KL P) mainGlobals "isinstance" = some none := by kernel_rfl
theorem b_isinstance' (P : Params) : nsIn (KL P) builtinsNs "isinstance" = some (some (U "isinstance")) := by kernel_rfl
theorem b_dict (P : Params) : nsIn (KL P) mainGlobals "dict" = some none := by kernel_rfl
theorem b_dict' (P : Params) : nsIn (KL P) builtinsNs "dict" = some (some (Y "dict")) := by kernel_rfl
theorem b_len (P : Params) : nsIn (KL P) mainGlobals "len" = some none := by kernel_rfl
theorem b_len' (P : Params) : nsIn (KL P) builtinsNs "len" = some (some (U "len")) := by kernel_rfl
theorem b_range (P : Params) : nsIn (KL P) mainGlobals "range" = some none := by kernel_rfl
theorem b_range' (P : Params) : nsIn (KL P) builtinsNs "range" = some (some (Y "range")) := by kernel_rfl
theorem b_abs (P : Params) : nsIn (KL P) mainGlobals "abs" = some none := by kernel_rfl
theorem b_abs' (P : Params) : nsIn (KL P) builtinsNs "abs" = some (some (U "abs")) := by kernel_rfl
theorem b_int (P : Params) : nsIn (KL P) mainGlobals "int" = some none := by kernel_rfl
theorem b_int' (P : Params) : nsIn (KL P) builtinsNs "int" = some (some (Y "int")) := by kernel_rfl
theorem b_all (P : Params) : nsIn (KL P) mainGlobals "all" = some none := by kernel_rfl
theorem b_all' (P : Params) : nsIn (KL P) builtinsNs "all" = some (some (U "all")) := by kernel_rfl
theorem b_bytes (P : Params) : nsIn (KL P) mainGlobals "bytes" = some none := by kernel_rfl
theorem b_bytes' (P : Params) : nsIn (KL P) builtinsNs "bytes" = some (some (Y "bytes")) := by kernel_rfl
theorem b_Exception (P : Params) : nsIn (KL P) mainGlobals "Exception" = some none := by kernel_rfl
theorem b_Exception' (P : Params) : nsIn (KL P) builtinsNs "Exception" = some (some (Y "Exception")) := by kernel_rfl
theorem k_STATE_WORDS (P : Params) : (KL P).lookup 702 = some ⟨.type "tuple", none, .seq ([S "q" 1117, S "Q" 1118, S "cm" 1119] : List Value).toArray 0, #[]⟩ := by kernel_rfl
theorem s_STATE_WORDS : StrsAre [S "q" 1117, S "Q" 1118, S "cm" 1119] ["q", "Q", "cm"] := by repeat constructor
theorem k_LINE_WORDS (P : Params) : (KL P).lookup 703 = some ⟨.type "tuple", none, .seq ([S "w" 1121, S "J" 1122, S "j" 1123, S "M" 1124, S "d" 1125, S "ri" 1126, S "i" 1127, S "gs" 1128] : List Value).toArray 0, #[]⟩ := by kernel_rfl
theorem s_LINE_WORDS : StrsAre [S "w" 1121, S "J" 1122, S "j" 1123, S "M" 1124, S "d" 1125, S "ri" 1126, S "i" 1127, S "gs" 1128] ["w", "J", "j", "M", "d", "ri", "i", "gs"] := by repeat constructor
theorem k_PATH_WORDS (P : Params) : (KL P).lookup 704 = some ⟨.type "tuple", none, .seq ([S "m" 1130, S "l" 1131, S "c" 1132, S "v" 1133, S "y" 1134, S "h" 1135, S "re" 1136] : List Value).toArray 0, #[]⟩ := by kernel_rfl
theorem s_PATH_WORDS : StrsAre [S "m" 1130, S "l" 1131, S "c" 1132, S "v" 1133, S "y" 1134, S "h" 1135, S "re" 1136] ["m", "l", "c", "v", "y", "h", "re"] := by repeat constructor
theorem k_CLIP_WORDS (P : Params) : (KL P).lookup 705 = some ⟨.type "tuple", none, .seq ([S "W" 1138, S "W*" 1139] : List Value).toArray 0, #[]⟩ := by kernel_rfl
theorem s_CLIP_WORDS : StrsAre [S "W" 1138, S "W*" 1139] ["W", "W*"] := by repeat constructor
theorem k_PAINT_WORDS (P : Params) : (KL P).lookup 706 = some ⟨.type "tuple", none, .seq ([S "S" 1141, S "s" 1142, S "f" 1143, S "F" 1144, S "f*" 1145, S "B" 1146, S "B*" 1147, S "b" 1148, S "b*" 1149, S "n" 1150] : List Value).toArray 0, #[]⟩ := by kernel_rfl
theorem s_PAINT_WORDS : StrsAre [S "S" 1141, S "s" 1142, S "f" 1143, S "F" 1144, S "f*" 1145, S "B" 1146, S "B*" 1147, S "b" 1148, S "b*" 1149, S "n" 1150] ["S", "s", "f", "F", "f*", "B", "B*", "b", "b*", "n"] := by repeat constructor
theorem k_COLOUR_WORDS (P : Params) : (KL P).lookup 707 = some ⟨.type "tuple", none, .seq ([S "g" 1152, S "G" 1153, S "rg" 1154, S "RG" 1155, S "k" 1156, S "K" 1157, S "cs" 1158, S "CS" 1159, S "sc" 1160, S "SC" 1161, S "scn" 1162, S "SCN" 1163] : List Value).toArray 0, #[]⟩ := by kernel_rfl
theorem s_COLOUR_WORDS : StrsAre [S "g" 1152, S "G" 1153, S "rg" 1154, S "RG" 1155, S "k" 1156, S "K" 1157, S "cs" 1158, S "CS" 1159, S "sc" 1160, S "SC" 1161, S "scn" 1162, S "SCN" 1163] ["g", "G", "rg", "RG", "k", "K", "cs", "CS", "sc", "SC", "scn", "SCN"] := by repeat constructor
theorem k_TEXT_WORDS (P : Params) : (KL P).lookup 708 = some ⟨.type "tuple", none, .seq ([S "Tc" 1165, S "Tw" 1166, S "Tz" 1167, S "TL" 1168, S "Ts" 1169, S "Tr" 1170, S "Tf" 1171] : List Value).toArray 0, #[]⟩ := by kernel_rfl
theorem s_TEXT_WORDS : StrsAre [S "Tc" 1165, S "Tw" 1166, S "Tz" 1167, S "TL" 1168, S "Ts" 1169, S "Tr" 1170, S "Tf" 1171] ["Tc", "Tw", "Tz", "TL", "Ts", "Tr", "Tf"] := by repeat constructor
theorem k_PLACE_WORDS (P : Params) : (KL P).lookup 709 = some ⟨.type "tuple", none, .seq ([S "Td" 1173, S "TD" 1174, S "Tm" 1175, S "T*" 1176] : List Value).toArray 0, #[]⟩ := by kernel_rfl
theorem s_PLACE_WORDS : StrsAre [S "Td" 1173, S "TD" 1174, S "Tm" 1175, S "T*" 1176] ["Td", "TD", "Tm", "T*"] := by repeat constructor
theorem k_SHOW_WORDS (P : Params) : (KL P).lookup 710 = some ⟨.type "tuple", none, .seq ([S "Tj" 1178, S "TJ" 1179, S "'" 1180, S "\"" 1181] : List Value).toArray 0, #[]⟩ := by kernel_rfl
theorem s_SHOW_WORDS : StrsAre [S "Tj" 1178, S "TJ" 1179, S "'" 1180, S "\"" 1181] ["Tj", "TJ", "'", "\""] := by repeat constructor
section
variable {Γ : G} {l l' : List (Str × Value)} {news news' fz : List (Addr × Obj)} {s : Shared} {rest : List Stmt} {Q : Flow → Shared → Prop} {E : Value → Shared → Prop}
def EvX (Γ : G) (l : List (Str × Value)) (news : List (Addr × Obj)) (e : Expr) (P : Value → List (Addr × Obj) → Prop) (may : Prop) : Prop :=
  ∀ (s : Shared) (Q : Value → Shared → Prop) (E : Value → Shared → Prop), Cx Γ l news s → (∀ v n s', P v n → Cx Γ l n s' → Q v s') → (may → ∀ e s', Flies Γ e s' → E e s') → wpAny (model prg Γ.w) Γ.A (eval e Γ.env) Q E s
def CallX (Γ : G) (l : List (Str × Value)) (news : List (Addr × Obj)) (f : Addr) (vs : List Value) (P : Value → List (Addr × Obj) → Prop) (may : Prop) : Prop :=
  ∀ (s : Shared) (Q : Value → Shared → Prop) (E : Value → Shared → Prop), Cx Γ l news s → (∀ v n s', P v n → Cx Γ l n s' → Q v s') → (may → ∀ e s', Flies Γ e s' → E e s') → wpAny (model prg Γ.w) Γ.A (call (.ref f) vs) Q E s
theorem Ct.use {f : Addr} {vs : List Value} {facts : Heap → Prop} {P : Value → List (Addr × Obj) → Prop} {may : Prop} {k : Nat} (c : Ct Γ.w f vs facts news P may k) (room : Room Γ.A k) (hf : ∀ s, Cx Γ l (news ++ fz) s → facts (gOf s news)) :
    CallX Γ l (news ++ fz) f vs (fun v n => ∃ n₁, n = n₁ ++ fz ∧ P v n₁) may := fun s Q E C k hE =>
  c _ _ _ _ s Q E C.preF room (hf s C) (fun v n s' hP B => k v _ s' ⟨n, rfl, hP⟩ (C.afterF B)) (fun m e s' T => hE m e s' (C.flies T))
abbrev CtP (w : World) (f : Addr) (vs : List Value) (facts : Heap → Prop) (news : List (Addr × Obj)) (P : Value → Prop) (k : Nat) : Prop := Ct w f vs facts news (fun v n => n = news ∧ P v) False k
theorem CtP.run {f : Addr} {vs : List Value} {facts : Heap → Prop} {P : Value → Prop} {k : Nat} (c : CtP Γ.w f vs facts news P k) (room : Room Γ.A k) (hf : ∀ s, Cx Γ l (news ++ fz) s → facts (gOf s news)) :
    Run Γ l (news ++ fz) (call (.ref f) vs) P := fun s Q E C k =>
  (Ct.use c room hf) s Q E C (fun v n s' hP C' => by obtain ⟨n₁, rfl, rfl, hv⟩ := hP; exact k v s' hv C') (fun m => m.elim)
theorem CtP.run0 {f : Addr} {vs : List Value} {facts : Heap → Prop} {P : Value → Prop} {k : Nat} (c : CtP Γ.w f vs facts [] P k) (room : Room Γ.A k) (hf : facts Γ.g) (mono : ∀ h h' : Heap, facts h → (∀ b o, h.get? b = some o → h'.get? b = some o) → facts h') :
    Run Γ l news (call (.ref f) vs) P := CtP.run (news := []) (fz := news) c room fun s C => mono _ _ hf fun b o e => C.keep e
theorem EvX.mono {e : Expr} {P P' : Value → List (Addr × Obj) → Prop} {may : Prop} (h : EvX Γ l news e P may) (k : ∀ v n, P v n → P' v n) : EvX Γ l news e P' may := fun s Q E C q hE => h s Q E C (fun v n s' hp C' => q v n s' (k v n hp) C') hE
theorem evx_of {e : Expr} {P : Value → Prop} {may : Prop} (h : Ev Γ l news e P) : EvX Γ l news e (fun v n => P v ∧ n = news) may := fun s Q E C k _ => h s Q E C fun v s' hv C' => k v news s' ⟨hv, rfl⟩ C'
theorem evx_call {fe : Expr} {f : Addr} {F : FI} {e : Expr} {r : List Expr} {pos : Pos} {R : List Value → Prop} {P : Value → List (Addr × Obj) → Prop} {may : Prop} (G : F.Good) (hf : Ev Γ l news fe (· = .ref F.f))
    (ha : Evs Γ l news pos (e :: r) R) (hc : ∀ vs, R vs → CallX Γ l news F.f vs P may) (he : starEach (e :: r) Γ.env = (false, eval e Γ.env) :: starEach r Γ.env := by rfl)
    (hc' : eval (.Call fe (e :: r) [] pos) Γ.env = (do callWith pos (← eval fe Γ.env) [] (backTo pos (starEach (e :: r) Γ.env)) (backToKw pos (keywordEach [] Γ.env))) := by rfl) : EvX Γ l news (.Call fe (e :: r) [] pos) P may := fun s Q E C k hE =>
  Call_ (hf s _ E C fun v s' hv C' => by subst hv; exact call_fn (first := []) (G.k _) rfl ha C' (fun vs s₂ hv C₂ => hc vs hv s₂ Q E C₂ k hE) he) hc'
theorem ev_callP {fe : Expr} {F : FI} {e : Expr} {r : List Expr} {pos : Pos} {R : List Value → Prop} {P : Value → Prop} (G : F.Good) (hf : Ev Γ l news fe (· = .ref F.f))
    (ha : Evs Γ l news pos (e :: r) R) (hc : ∀ vs, R vs → Run Γ l news (call (.ref F.f) vs) P) (he : starEach (e :: r) Γ.env = (false, eval e Γ.env) :: starEach r Γ.env := by rfl)
    (hc' : eval (.Call fe (e :: r) [] pos) Γ.env = (do callWith pos (← eval fe Γ.env) [] (backTo pos (starEach (e :: r) Γ.env)) (backToKw pos (keywordEach [] Γ.env))) := by rfl) : Ev Γ l news (.Call fe (e :: r) [] pos) P :=
  ev_call (G.k _) rfl hf ha hc he hc'
theorem exx_expr {e : Expr} {pos : Pos} {P : List (Addr × Obj) → Prop} {may : Prop} (h : EvX Γ l news e (fun v n => v = .none ∧ P n) may) (hE : may → ∀ e s', Flies Γ e s' → E e s') (k : ∀ n, P n → Ex Γ l n rest Q E)
    (hi : interactive Γ.env = false := by rfl) (hsw : swapsWith e none pos.line Γ.env = pure false := by rfl) : Ex Γ l news (.Expr e pos :: rest) Q E := fun s C =>
  wpAny_execs_cons (wpAny_Expr (h s _ E C (fun v n s' hv C' => by obtain ⟨rfl, hn⟩ := hv; exact k n hn s' C') hE) hi hsw)
theorem exx_assign {x : Str} {e : Expr} {p pos : Pos} {P : Value → List (Addr × Obj) → Prop} {may : Prop} (h : EvX Γ l news e P may) (hE : may → ∀ e s', Flies Γ e s' → E e s') (hx : Γ.env.kindOf x = some .local) (hl : ∀ p ∈ l', p ∈ l) (hn : (l'.all fun p => !(p.1 == x)) = true)
    (k : ∀ v n, P v n → Ex Γ ((x, v) :: l') n rest Q E) (hsw : swapsWith e (some (.Name x p)) pos.line Γ.env = pure false := by rfl) (hlo : Γ.env.locals = Γ.L := by rfl) : Ex Γ l news (.Assign [.Name x p] e pos :: rest) Q E := fun s C =>
  wpAny_execs_cons (wpAny_Assign_Name (h s _ E C (fun v n s' hv C' => st_local C' hx hl hn (fun s'' C'' => k v n hv s'' C'') hlo) hE) hsw)
theorem exx_ret {e : Expr} {pos : Pos} {P : Value → List (Addr × Obj) → Prop} {may : Prop} (h : EvX Γ l news e P may) (hE : may → ∀ e s', Flies Γ e s' → E e s') (k : ∀ v n s, P v n → Cx Γ l n s → Q (.ret v) s) : Ex Γ l news (.Return (some e) pos :: rest) Q E := fun s C =>
  wpAny_execs_cons (wpAny_Return_some (h s _ E C (fun v n s' hv C' => k v n s' hv C') hE))
end
local macro_rules
  | `(tactic| walk_at "mem") => `(tactic| first | with_reducible exact List.mem_cons_self | (with_reducible refine List.mem_cons_of_mem _ ?_; walk_at "mem"))
  | `(tactic| walk_at "sub") => `(tactic| first | exact fun _ h => h | (repeat' (first | with_reducible exact List.forall_mem_nil _ | (refine List.forall_mem_cons.mpr (And.intro ?_ ?_); with_reducible walk_at "mem"))))
  | `(tactic| walk_at "nm") => `(tactic| exact ev_name (by walk_at "mem"))
  | `(tactic| walk_at "mc") => `(tactic| exact Exists.intro _ (fun _ _ _ h => MethodCall_ h))
  | `(tactic| walk_at "in") => `(tactic| first | with_reducible assumption | with_reducible exact List.mem_cons_self | (with_reducible refine List.mem_cons_of_mem _ ?_; walk_at "in") | (with_reducible refine List.mem_append_left _ ?_; walk_at "in") | (with_reducible refine List.mem_append_right _ ?_; walk_at "in"))
  | `(tactic| walk_at "perm") => `(tactic| (classical exact List.perm_iff_count.mpr fun a => by simp only [List.count_append, List.count_cons, List.count_nil, List.append_nil, List.nil_append, Nat.add_zero, Nat.zero_add] <;> first | ac_rfl | omega))
section
variable {Γ : G} {l l' : List (Str × Value)} {news news' fz : List (Addr × Obj)} {s : Shared} {rest : List Stmt} {Q : Flow → Shared → Prop} {E : Value → Shared → Prop}
theorem ev_nameP {x : Str} {pos : Pos} {v : Value} {P : Value → Prop} (hm : (x, v) ∈ l) (hP : P v) (hx : Γ.env.kindOf x = some .local := by kernel_rfl) (hd : (x == ("__debug__" : Str)) = false := by kernel_rfl) (hlo : Γ.env.locals = Γ.L := by rfl) : Ev Γ l news (.Name x pos) P := (ev_name hm hx hd hlo).mono fun _ e => e ▸ hP
theorem new_tuple {vs : List Value} {Q : Value → Shared → Prop} {E : Value → Shared → Prop} (C : Cx Γ l news s) (k : ∀ a s', Cx Γ l ((a, { cls := .type "tuple", data := .seq vs.toArray }) :: news) s' → Q (.ref a) s') (hsz : vs.length ≤ 1000) :
    wpAny (model prg Γ.w) Γ.A (newTuple vs) Q E s :=
  wpAny_newObj_type (k _ _ (C.alloc _ rfl)) (by show vs.toArray.size ≤ sizeLine; rw [List.size_toArray]; exact Nat.le_trans hsz (by decide))
theorem new_list {vs : List Value} {Q : Value → Shared → Prop} {E : Value → Shared → Prop} (C : Cx Γ l news s) (k : ∀ a s', Cx Γ l ((a, listOf vs.toArray 0) :: news) s' → Q (.ref a) s') (hsz : vs.length ≤ 100000) :
    wpAny (model prg Γ.w) Γ.A (newList vs) Q E s :=
  wpAny_newObj_type (k _ _ (C.alloc _ rfl)) (by show vs.toArray.size ≤ sizeLine; rw [List.size_toArray]; exact Nat.le_trans hsz (by decide))
theorem unit_reads {h : Heap} {a : Addr} (u : Unit0 h a) : Reads h (.ref a) (.tuple []) [] := let ⟨n, e⟩ := u; .tuple e rfl rfl .nil
theorem Cx.roomC (C : Cx Γ l news s) : Γ.A.units + 64 < cLine := by have := C.ok.hu; unfold cLine; omega
theorem ist_ne_unit {e : Expr} {ta : Addr} {kk : Nat} {tp pos : Pos} (he : Ev Γ l news e (· = .ref ta)) (hu : ∀ s, Cx Γ l news s → Unit0 s.heap ta) : IsT Γ l news (.Compare e [.NotEq] [.Tuple [] kk tp] pos) false := fun s Q E C k =>
  wpAny_isTrue_Compare1 (he s _ E C fun u s₁ h₁ C₁ => by
    subst h₁
    refine Tuple_ (spliced_none (new_tuple C₁ (fun b s₂ C₂ => ?_) (by simp)))
    refine ne_dataH_same (da := .tuple []) (db := .tuple []) (unit_reads (hu s₂ (C₂.drop (List.sublist_cons_self _ _)))) (unit_reads ⟨0, C₂.obj (.head _)⟩) (by decide) (by decide) C₂.roomC (by decide) ?_
    exact wpAny_truthy_bool (k _ _ rfl (C₂.drop (List.sublist_cons_self _ _)))) (by rfl)
theorem Cx.same (C : Cx Γ l news s) {d : Addr} {o o' : Obj} {h' : Heap} {n : Nat} (R : Rep d o o' news news') (hs : Heap.SameBut d s.heap h') (ho : h'.get? d = some o') : Cx Γ l news' { s with heap := h', toks := n } := by
  obtain ⟨m, F, k⟩ := C.fr
  have z := C.nw _ R.mem
  walk_at "h"
  obtain ⟨pre, post, e1, e2, a, b⟩ := (R.upd C.nd).split
  walk_at "u"
  have N := C.nw
  rw [e1] at N
  exact ⟨C.ok, ⟨m, F.change hs z.2.1 z.2.2, k⟩, e2 ▸ news_set N a b hs ho, by rw [R.addrs]; exact C.nd, C.gens, C.drawn, C.os⟩
def MC (Γ : G) (o : Expr) (name : Str) (args : List Expr) (apos pos : Pos) : Prop :=
  ∃ pl : Sem Bool, ∀ (Q : Value → Shared → Prop) (E : Value → Shared → Prop) (s : Shared), wpAny (model prg Γ.w) Γ.A (eval o Γ.env) (fun ov s₁ => wpAny (model prg Γ.w) Γ.A (getMethod ov name pl) (fun fx s₂ =>
    wpAny (model prg Γ.w) Γ.A (callWith pos fx.1 fx.2 (backTo pos (starEach args Γ.env)) []) Q E s₂) E s₁) E s → wpAny (model prg Γ.w) Γ.A (eval (.Call (.Attribute o name apos) args [] pos) Γ.env) Q E s
theorem evx_append {o e : Expr} {apos pos : Pos} {D : Addr} {its : Array Value} {n : Nat} {P : Value → Prop} {may : Prop} {upd : Value → List (Addr × Obj)} (ho : Ev Γ l news o (· = .ref D)) (he : Ev Γ l news e P) (hmem : (D, listOf its n) ∈ news)
    (R : ∀ v, Rep D (listOf its n) (listOf (its.push v) (n + 1)) news (upd v)) (hsz : its.size ≤ 100000) (hm : MC Γ o "append" [e] apos pos)
    (hst : starEach [e] Γ.env = (false, eval e Γ.env) :: starEach [] Γ.env := by rfl) :
    EvX Γ l news (.Call (.Attribute o "append" apos) [e] [] pos) (fun v n' => v = .none ∧ ∃ x, P x ∧ n' = upd x) may := fun s Q E C k hE =>
  hm.elim fun pl hm => hm _ _ _ (ho s _ E C fun v s₁ hv C₁ => by
    subst hv
    refine Calls.getMethod_list_append (C₁.obj hmem) rfl rfl ?_
    refine callWith_method1 (spliced_more (he s₁ _ E C₁ fun x s₂ hx C₂ => spliced_none ?_) hst) hst (by rfl)
    exact append_at (C₂.obj hmem) (fun h' hs ho' => k _ _ _ ⟨rfl, x, hx, rfl⟩ (C₂.same (n := s₂.toks) (R x) hs ho')) (Nat.le_trans hsz (by decide)))
end
structure PD where
  pa : Addr
  pd : Addr
  mr : Addr
  cp : Addr
  fo : Addr
  xa : Addr
  ta : Addr
  sa : Addr
  tb : Addr
  op : Value
  ru : Value
structure PV where
  tk : Nat → Tok
  n : Nat
  re : Value
  st : Value
  fl : Value
  sk : Value
  ms : List Value
  cs : List Value
  fs : List Value
  nm : Nat
  nc : Nat
  nf : Nat
  pl : Addr
  np : Nat
noncomputable abbrev pdict (P : Params) (D : PD) (V : PV) : Addr × Obj :=
  (D.pd, dictOf (pent P V.tk (.ref D.sa) V.re D.op V.st (.ref V.pl) V.fl (.ref D.xa) D.ru .none V.sk (.ref D.fo) (.ref D.mr) (.ref D.cp)) V.n)
noncomputable abbrev core (P : Params) (D : PD) (V : PV) : List (Addr × Obj) :=
  [pdict P D V, (D.mr, listOf V.ms.toArray V.nm), (D.cp, listOf V.cs.toArray V.nc), (D.fo, listOf V.fs.toArray V.nf), (V.pl, listOf #[] V.np)]
def NoAt (h : Heap) (x C : Addr) (n : Str) : Prop := ∃ d es k, h.get? x = some (instObj C d) ∧ h.get? d = some (dictOf es k) ∧ getL n es = some none
theorem NoAt.keeps {h h' : Heap} {x C : Addr} {n : Str} (a : NoAt h x C n) (k : ∀ b o, h.get? b = some o → h'.get? b = some o) : NoAt h' x C n := let ⟨d, es, i, h1, h2, h3⟩ := a; ⟨d, es, i, k _ _ h1, k _ _ h2, h3⟩
structure ShF (g : Heap) (sa tb : Addr) : Prop where
  table : At g sa 391 "table" (.ref tb)
  get : NoAt g sa 391 "get"
  fetch : NoAt g sa 391 "fetch"
theorem ShF.keeps {h h' : Heap} {sa tb : Addr} (u : ShF h sa tb) (k : ∀ b o, h.get? b = some o → h'.get? b = some o) : ShF h' sa tb := ⟨u.table.keeps k, u.get.keeps k, u.fetch.keeps k⟩
structure PF (g : Heap) (D : PD) : Prop where
  pa : g.get? D.pa = some (instObj 739 D.pd)
  path : At g D.xa 480 "parts" (.ref D.ta)
  unit : Unit0 g D.ta
  shelf : ShF g D.sa D.tb
theorem Unit0.keeps {h h' : Heap} {a : Addr} (u : Unit0 h a) (k : ∀ b o, h.get? b = some o → h'.get? b = some o) : Unit0 h' a := let ⟨n, e⟩ := u; ⟨n, k _ _ e⟩
theorem PF.keeps {h h' : Heap} {D : PD} (u : PF h D) (k : ∀ b o, h.get? b = some o → h'.get? b = some o) : PF h' D := ⟨k _ _ u.pa, u.path.keeps k, u.unit.keeps k, u.shelf.keeps k⟩
structure SF (g : Heap) (st : Value) (mx cl fi sr : Value) (vd : Addr) : Prop where
  at_ : ∃ a, st = .ref a ∧ At g a 597 "matrix" mx ∧ At g a 597 "clips" cl ∧ At g a 597 "fill" fi ∧ At g a 597 "stroke" sr ∧ At g a 597 "values" (.ref vd)
theorem SF.keeps {h h' : Heap} {st mx cl fi sr : Value} {vd : Addr} (u : SF h st mx cl fi sr vd) (k : ∀ b o, h.get? b = some o → h'.get? b = some o) : SF h' st mx cl fi sr vd := let ⟨a, e, a1, a2, a3, a4, a5⟩ := u.at_; ⟨a, e, a1.keeps k, a2.keeps k, a3.keeps k, a4.keeps k, a5.keeps k⟩
section
variable {w : World} {D : PD} {V : PV}
theorem a_marks (P : Params) : attrOk (KL P) 739 "marks" = true := by kernel_rfl
theorem a_clips (P : Params) : attrOk (KL P) 739 "clips" = true := by kernel_rfl
theorem a_state (P : Params) : attrOk (KL P) 739 "state" = true := by kernel_rfl
theorem a_parts (P : Params) : attrOk (KL P) 480 "parts" = true := by kernel_rfl
theorem a_sclips (P : Params) : attrOk (KL P) 597 "clips" = true := by kernel_rfl
theorem put_mark {m : Value} {mx cl fi sr : Value} {vd : Addr} (hsz : V.ms.length ≤ 90000 ∧ V.cs.length ≤ 90000) :
    Ct w 757 [.ref D.pa, m] (fun g => PF g D ∧ SF g V.st mx cl fi sr vd) (core w.params D V) (fun v n => v = .none ∧ n = core w.params D { V with ms := V.ms ++ [m], cs := V.cs ++ [cl], nm := V.nm + 1, nc := V.nc + 1 }) False 1 := by
  refine ct_def (F := F_put_mark) (binds := [(Str.ofString "painter", .ref D.pa), (Str.ofString "mark", m)]) (k := 0) G_put_mark (by kernel_rfl) (by kernel_rfl) (by kernel_rfl) fun A s₀ g L outer base hf rm => ?_
  walk_at "h"
  obtain ⟨hf, ⟨sa, hst, s1, s2, s3, s4, s5⟩⟩ := hf
  walk_at "u"
  conv => { arg 4; whnf }
  refine exx_expr (P := fun n => n = core w.params D { V with ms := V.ms ++ [m], nm := V.nm + 1 }) (may := False) (EvX.mono (evx_append (its := V.ms.toArray) (n := V.nm) (D := D.mr) (may := False)
      (ev_attr_name (by walk_at "nm") (get_at (a_marks _) (at_mix hf.pa (by walk_at "mem") (by kernel_rfl) rfl)))
      (by walk_at "nm") (by walk_at "mem") (fun v => .tail .head) (by have := hsz.1; simp; omega) (by walk_at "mc")) (fun v n h => ?_)) (fun h => h.elim) (fun n hn => ?_)
  · walk_at "h"
    obtain ⟨rfl, x, rfl, rfl⟩ := h
    walk_at "u"
    exact ⟨rfl, by simp [List.push_toArray]⟩
  subst hn
  refine exx_expr (P := fun n => n = core w.params D { V with ms := V.ms ++ [m], cs := V.cs ++ [cl], nm := V.nm + 1, nc := V.nc + 1 }) (may := False) (EvX.mono (evx_append (its := V.cs.toArray) (n := V.nc) (D := D.cp) (may := False)
      (ev_attr_name (by walk_at "nm") (get_at (a_clips _) (at_mix hf.pa (by walk_at "mem") (by kernel_rfl) rfl)))
      (ev_attr_attr (ev_attr_name (by walk_at "nm") (get_at (a_state _) (at_mix hf.pa (by walk_at "mem") (by rw [hst]; kernel_rfl) rfl))) (get_at (a_sclips _) (at_imm s2))) (by walk_at "mem") (fun v => .tail (.tail .head)) (by have := hsz.2; simp; omega) (by walk_at "mc")) (fun v n h => ?_)) (fun h => h.elim) (fun n hn => ?_)
  · walk_at "h"
    obtain ⟨rfl, x, rfl, rfl⟩ := h
    walk_at "u"
    exact ⟨rfl, by simp [List.push_toArray]⟩
  subst hn
  exact ex_nil fun s C => ⟨_, _, C, rfl, rfl⟩
end
theorem rep_last {d : Addr} {o o' : Obj} : ∀ {n : List (Addr × Obj)}, Rep d o o' (n ++ [(d, o)]) (n ++ [(d, o')])
  | [] => .head
  | _ :: n => .tail (rep_last (n := n))
structure Iter (Γ : G) (it : Addr) (N : Nat) (item : Nat → Value → Prop) (ok : Nat → Obj → Prop) : Prop where
  next : ∀ i o l n s (Q : Option Value → Shared → Prop) (E : Value → Shared → Prop), i < N → ok i o → Cx Γ l (n ++ [(it, o)]) s → (∀ v o' s', item i v → ok (i + 1) o' → Cx Γ l (n ++ [(it, o')]) s' → Q (some v) s') →
    wpAny (model prg Γ.w) Γ.A (pyNext (.ref it)) Q E s
  done : ∀ o l n s (Q : Option Value → Shared → Prop) (E : Value → Shared → Prop), ok N o → Cx Γ l (n ++ [(it, o)]) s → (∀ s', Cx Γ l n s' → Q none s') → wpAny (model prg Γ.w) Γ.A (pyNext (.ref it)) Q E s
section
variable {Γ : G} {l l' : List (Str × Value)} {news news' fz : List (Addr × Obj)} {s : Shared} {rest : List Stmt} {Q : Flow → Shared → Prop} {E : Value → Shared → Prop}
theorem Cx.ext (C : Cx Γ l (news ++ [(d, o)]) s) {h' : Heap} (hs : Heap.ExtBut d s.heap h') : Cx Γ l news { s with heap := h' } := by
  obtain ⟨m, F, k⟩ := C.fr
  have z := C.nw (d, o) (List.mem_append_right _ (.head _))
  walk_at "h"
  obtain ⟨oL, es, ep, hL, r⟩ := F.ns
  walk_at "u"
  have nd := C.nd
  rw [List.map_append, List.nodup_append] at nd
  refine ⟨C.ok, ⟨m, ⟨⟨oL, es, ep, hs _ _ (Ne.symm z.2.1) hL, r⟩, fun b x e => hs _ _ (fun q => ?_) (F.keep b x e), F.above⟩, k⟩, fun p hp => ?_, nd.1, C.gens, C.drawn, C.os⟩
  · rw [q, z.2.2] at e; cases e
  · have P := C.nw p (List.mem_append_left _ hp)
    exact ⟨hs _ _ (fun q => nd.2.2 _ (List.mem_map_of_mem hp) _ (by simp) q) P.1, P.2⟩
def LOk (D : Addr) (i : Nat) (o : Obj) : Prop := o.cls = .type "list_iterator" ∧ o.data = .fields #[.ref D, .int i 0]
theorem list_iter {it D : Addr} {items : Array Value} (hl : Γ.g.IsList D items) : Iter Γ it items.size (fun i v => items[i]? = some v) (LOk D) where
  next i o l n s Q E hi ho C k := by
    have hl' : s.heap.IsList D items := hl.at fun o e => C.keep e
    obtain ⟨v, hv⟩ : ∃ v, items[i]? = some v := ⟨items[i], by simp [hi]⟩
    refine wpAny_pyNext_list_item (l := D) (i := i) ⟨o, C.obj (List.mem_append_right _ (.head _)), ho.1, ho.2⟩ hl' hv fun h' hit hs => ?_
    walk_at "h"
    obtain ⟨o', h1, h2, h3⟩ := hit
    walk_at "u"
    exact k v o' _ hv ⟨h2, h3⟩ (C.same (n := s.toks) rep_last hs h1)
  done o l n s Q E ho C k := by
    have hl' : s.heap.IsList D items := hl.at fun o e => C.keep e
    exact wpAny_pyNext_list_end (l := D) (i := items.size) C.ok.hh ⟨o, C.obj (List.mem_append_right _ (.head _)), ho.1, ho.2⟩ hl' (by simp) fun h' hs => k _ (C.ext hs)
theorem Cx.allocE (C : Cx Γ l news s) (o : Obj) (hf : o.isFreed = false) : Cx Γ l (news ++ [(s.heap.objs.size, o)]) { s with heap := s.heap.push o } := by
  have C' := C.alloc o hf
  refine ⟨C'.ok, C'.fr, fun p hp => C'.nw p (by rcases List.mem_append.mp hp with h | h; exact .tail _ h; rw [List.mem_singleton.mp h]; exact .head _), ?_, C'.gens, C'.drawn, C'.os⟩
  have nd := C'.nd
  rw [List.map_cons, List.nodup_cons] at nd
  rw [List.map_append, List.nodup_append]
  refine ⟨nd.2, by simp, fun a ha b hb e => ?_⟩
  simp only [List.map_cons, List.map_nil, List.mem_singleton] at hb
  subst hb; subst e; exact nd.1 ha
def MakesIter (Γ : G) (l : List (Str × Value)) (news : List (Addr × Obj)) (iter : Expr) (N : Nat) (item : Nat → Value → Prop) (ok : Nat → Obj → Prop) : Prop :=
  ∀ s (Q : Value → Shared → Prop) (E : Value → Shared → Prop), Cx Γ l news s → (∀ it o s', ok 0 o → Iter Γ it N item ok → Cx Γ l (news ++ [(it, o)]) s' → Q (.ref it) s') →
    wpAny (model prg Γ.w) Γ.A (do let x ← foldedSetIterable iter Γ.env (← eval iter Γ.env); standAt iter.pos; holding [x] (pyIter x)) Q E s
theorem makes_list {iter : Expr} {D : Addr} {items : Array Value} (he : Ev Γ l news iter (· = .ref D)) (hl : Γ.g.IsList D items) (hf : ∀ v, foldedSetIterable iter Γ.env v = pure v) :
    MakesIter Γ l news iter items.size (fun i v => items[i]? = some v) (LOk D) := fun s Q E C k => by
  refine wpAny_bind (he s _ E C fun v s₁ hv C₁ => ?_)
  subst hv
  rw [hf]
  refine wpAny_bind (wpAny_pure (wpAny_bind (wpAny_standAt (wpAny_holding ?_))))
  exact wpAny_pyIter_list (hl.at fun o e => C₁.keep e) (k _ _ _ ⟨rfl, rfl⟩ (list_iter hl) (C₁.allocE _ rfl))
theorem ex_for {x : Str} {px pos : Pos} {iter : Expr} {body : List Stmt} {N : Nat} {item : Nat → Value → Prop} {ok : Nat → Obj → Prop} {may : Prop} (J : Nat → List (Str × Value) → List (Addr × Obj) → Prop)
    (hm : MakesIter Γ l news iter N item ok) (h0 : J 0 l news) (hx : Γ.env.kindOf x = some .local) (hJ : ∀ i l n, J i l n → (l.all fun p => !(p.1 == x)) = true)
    (turn : ∀ i v l n t, i < N → item i v → J i l n → Ex Γ ((x, v) :: l) (n ++ t) body (fun f s' => match f with | .next | .cont => ∃ l' n', J (i + 1) l' n' ∧ Cx Γ l' (n' ++ t) s' | .brk => False | .ret v => Q (.ret v) s') (fun e s' => may ∧ Flies Γ e s'))
    (k : ∀ l n, J N l n → Ex Γ l n rest Q (fun e s' => may ∧ Flies Γ e s')) (hlo : Γ.env.locals = Γ.L := by rfl) : Ex Γ l news (.For (.Name x px) iter body [] pos :: rest) Q (fun e s' => may ∧ Flies Γ e s') := fun s C => by
  refine wpAny_execs_cons ?_
  show wpAny _ _ (standAt pos >>= fun _ => eval iter Γ.env >>= fun v => foldedSetIterable iter Γ.env v >>= fun y => standAt iter.pos >>= fun _ => holding [y] (pyIter y) >>= fun it => runOwn (.forLoop (.Name x px) it body [] Γ.env) Γ.env) _ _ s
  refine wpAny_bind (wpAny_standAt ?_)
  have assoc : (eval iter Γ.env >>= fun v => foldedSetIterable iter Γ.env v >>= fun y => standAt iter.pos >>= fun _ => holding [y] (pyIter y) >>= fun it => runOwn (.forLoop (.Name x px) it body [] Γ.env) Γ.env) =
      ((do let y ← foldedSetIterable iter Γ.env (← eval iter Γ.env); standAt iter.pos; holding [y] (pyIter y)) >>= fun it => runOwn (.forLoop (.Name x px) it body [] Γ.env) Γ.env) := by
    show (eval iter Γ.env).bind _ = ((eval iter Γ.env).bind fun v => (foldedSetIterable iter Γ.env v).bind fun y => (standAt iter.pos).bind fun _ => holding [y] (pyIter y)).bind _
    rw [Sem.bind_assoc]
    refine congrArg _ (funext fun v => ?_)
    rw [Sem.bind_assoc]
    refine congrArg _ (funext fun y => ?_)
    rw [Sem.bind_assoc]; rfl
  rw [assoc]
  refine wpAny_bind (hm s _ _ C fun it o s₁ ho I C₁ => ?_)
  unfold runOwn
  refine wpAny_onRaise (wpAny_run ?_ (by intro y; cases y))
  have key : codeAny (model prg Γ.w) (Γ.A.mark none) (.forLoop (.Name x px) (.ref it) body [] Γ.env) (fun r s' => match r with
      | .ok f => (match f with | .next => wpAny (model prg Γ.w) Γ.A (execs rest Γ.env) Q (fun e s' => may ∧ Flies Γ e s') s' | f => Q f s')
      | .error e => may ∧ Flies Γ e s' ∧ ∃ a, e = .ref a ∧ Noted s'.heap Γ.base Γ.L a (.ref 59)) s₁ := by
    have hA : Γ.A.mark none = Γ.A := by obtain ⟨hd, d, fr, gs, u⟩ := Γ.A; rfl
    rw [hA]
    refine codeAny_forLoop (fun fuel s' => ∃ i l' n' o', fuel = N - i ∧ i ≤ N ∧ J i l' n' ∧ ok i o' ∧ Cx Γ l' (n' ++ [(it, o')]) s') ?_ N ⟨0, l, news, o, rfl, Nat.zero_le _, h0, ho, C₁⟩
    intro fuel s' h92
    walk_at "h"
    obtain ⟨i, l', n', o', rfl, hi, hJi, hoi, Ci⟩ := h92
    walk_at "u"
    by_cases hlt : i < N
    · refine I.next i o' l' n' s' _ _ hlt hoi Ci fun v o₂ s₂ hv ho₂ C₂ => ?_
      refine wpAny_assign_Name (st_local C₂ hx (fun _ h => h) (hJ i l' n' hJi) (fun s₃ C₃ => ?_) hlo)
      refine wpAny_mono (turn i v l' n' [(it, o₂)] hlt hv hJi s₃ C₃) (fun f s₄ hf => ?_) (fun e s₄ he => ?_)
      · cases f with
        | next => obtain ⟨l₂, n₂, hJ₂, C₄⟩ := hf; exact ⟨N - (i + 1), by omega, i + 1, l₂, n₂, o₂, rfl, hlt, hJ₂, ho₂, C₄⟩
        | cont => obtain ⟨l₂, n₂, hJ₂, C₄⟩ := hf; exact ⟨N - (i + 1), by omega, i + 1, l₂, n₂, o₂, rfl, hlt, hJ₂, ho₂, C₄⟩
        | brk => exact hf.elim
        | ret v => exact hf
      · exact he.2.note C₃.ok (fun s₅ a ha hn hf => ⟨he.1, hf, a, ha, hn⟩) hlo
    · obtain rfl : i = N := by omega
      refine I.done o' l' n' s' _ _ hoi Ci fun s₂ C₂ => ?_
      exact wpAny_execs_nil (k l' n' hJi s₂ C₂)
  refine codeAny_mono key fun r s₂ hr => ?_
  cases r with
  | ok f => exact hr
  | error e =>
    walk_at "h"
    obtain ⟨hmay, hf, a, ha, hn⟩ := hr
    walk_at "u"
    exact hf.own C.ok ha hn (fun s₃ hf' => ⟨hmay, hf'⟩) hlo
end
section
variable {Γ : G} {l l' : List (Str × Value)} {news news' fz : List (Addr × Obj)} {s : Shared} {rest : List Stmt} {Q : Flow → Shared → Prop} {E : Value → Shared → Prop}
theorem ev_bcall {fe : Expr} {id : String} {e : Expr} {r : List Expr} {pos : Pos} {R : List Value → Prop} {P : Value → Prop} (hf : Ev Γ l news fe (· = .builtin id))
    (ha : Evs Γ l news pos (e :: r) R) (hc : ∀ vs, R vs → Run Γ l news (call (.builtin id) vs) P) (he : starEach (e :: r) Γ.env = (false, eval e Γ.env) :: starEach r Γ.env := by rfl)
    (hplain : (backTo pos (starEach r Γ.env)).any (·.1) = false := by rfl)
    (hc' : eval (.Call fe (e :: r) [] pos) Γ.env = (do callWith pos (← eval fe Γ.env) [] (backTo pos (starEach (e :: r) Γ.env)) (backToKw pos (keywordEach [] Γ.env))) := by rfl) : Ev Γ l news (.Call fe (e :: r) [] pos) P := fun s Q E C k =>
  Call_ (hf s _ E C fun v s' hv C' => by subst hv; exact callWith_builtin1 (ha s' _ E C' fun vs s₂ hv C₂ => hc vs hv s₂ Q E C₂ k) he hplain) hc'
theorem ev_tcall {fe : Expr} {T : String} {e : Expr} {r : List Expr} {pos : Pos} {R : List Value → Prop} {P : Value → List (Addr × Obj) → Prop} {may : Prop} (hf : Ev Γ l news fe (· = .type T))
    (ha : Evs Γ l news pos (e :: r) R) (hc : ∀ vs, R vs → ∀ s Q E, Cx Γ l news s → (∀ v n s', P v n → Cx Γ l n s' → Q v s') → wpAny (model prg Γ.w) Γ.A (call (.type T) vs) Q E s) (he : starEach (e :: r) Γ.env = (false, eval e Γ.env) :: starEach r Γ.env := by rfl)
    (hplain : (backTo pos (starEach r Γ.env)).any (·.1) = false := by rfl)
    (hc' : eval (.Call fe (e :: r) [] pos) Γ.env = (do callWith pos (← eval fe Γ.env) [] (backTo pos (starEach (e :: r) Γ.env)) (backToKw pos (keywordEach [] Γ.env))) := by rfl) : EvX Γ l news (.Call fe (e :: r) [] pos) P may := fun s Q E C k _ =>
  Call_ (hf s _ E C fun v s' hv C' => by subst hv; exact PyProof.Rows.callWith_type1 (ha s' _ E C' fun vs s₂ hv C₂ => hc vs hv s₂ Q E C₂ k) he hplain) hc'
theorem isi_run {x c : Value} {t : Value} {H : Heap → Prop} {b : Bool} (Z : KitX (KL Γ.w.params) x t H) (p : ∀ s, Cx Γ l news s → H s.heap) (e : kitOne (KL Γ.w.params) t c = some b) (hx : x ≠ .builtin "__main__.__loader__#opaque") :
    Run Γ l news (call (.builtin "isinstance") [x, c]) (· = .bool b) := Run.of fun s Q E C k => kia_one Z C.k (p s C) e hx fun tk => k _ tk rfl
noncomputable def ownOk (K : Frag) (D : Addr) : Bool := plainGet K D "__class__" && hasDictIn K D && (findIn K (.ref D) "__class__" == some (some (.builtin "object.__class__"))) &&
  (specialIn K (.builtin "object.__class__") "__get__" == some (some (.builtin "getset_descriptor.__get__"))) && (takesIn K (.builtin "object.__class__") == some true) && (mroIn K D (.type "object") == some true)
def Ins (h : Heap) (x C : Addr) : Prop := ∃ d es k, h.get? x = some (instObj C d) ∧ h.get? d = some (dictOf es k)
theorem At.ins {h : Heap} {x C : Addr} {n : Str} {v : Value} (a : At h x C n v) : Ins h x C := let ⟨d, es, k, h1, h2, _, _⟩ := a; ⟨d, es, k, h1, h2⟩
theorem Ins.keeps {h h' : Heap} {x C : Addr} (a : Ins h x C) (k : ∀ b o, h.get? b = some o → h'.get? b = some o) : Ins h' x C := let ⟨d, es, i, h1, h2⟩ := a; ⟨d, es, i, k _ _ h1, k _ _ h2⟩
theorem isi_own {x D : Addr} {c : Value} {b : Bool} (ok : ownOk (KL Γ.w.params) D = true) (h : ∀ s, Cx Γ l news s → Ins s.heap x D) (e : kitOne (KL Γ.w.params) (.ref D) c = some b) :
    Run Γ l news (call (.builtin "isinstance") [.ref x, c]) (· = .bool b) := Run.of fun s Q E C k => by
  unfold ownOk at ok
  simp only [Bool.and_eq_true, beq_iff_eq] at ok
  walk_at "h"
  obtain ⟨⟨⟨⟨⟨k1, k2⟩, k3⟩, k4⟩, k5⟩, k6⟩ := ok
  walk_at "u"
  walk_at "h"
  obtain ⟨d, es, i, h1, h2⟩ := h s C
  walk_at "u"
  exact kia_one (kitx_own k1 k2 k3 k4 k5 k6) C.k (⟨h1, rfl, rfl, h2⟩ : InstAt s.heap x (instObj D d) D (some (dictOf es i))) e (by intro q; cases q) fun tk => k _ tk rfl
theorem isi_none {c : Value} {b : Bool} (e : kitOne (KL Γ.w.params) (.type "NoneType") c = some b) : Run Γ l news (call (.builtin "isinstance") [.none, c]) (· = .bool b) := isi_run kitx_none (fun _ _ => trivial) e (by intro q; cases q)
theorem isi_dict {a : Addr} {c : Value} {b : Bool} (h : ∀ s, Cx Γ l news s → KitAt a "dict" s.heap) (e : kitOne (KL Γ.w.params) (.type "dict") c = some b) : Run Γ l news (call (.builtin "isinstance") [.ref a, c]) (· = .bool b) := isi_run kitx_dict h e (by intro q; cases q)
theorem ev_isi {fe e c : Expr} {pos : Pos} {x cv : Value} {b : Bool} (hf : Ev Γ l news fe (· = .builtin "isinstance")) (h1 : Ev Γ l news e (· = x)) (h2 : Ev Γ l news c (· = cv)) (hr : Run Γ l news (call (.builtin "isinstance") [x, cv]) (· = .bool b))
    (he : starEach (e :: [c]) Γ.env = (false, eval e Γ.env) :: starEach [c] Γ.env := by rfl) (he2 : starEach [c] Γ.env = (false, eval c Γ.env) :: starEach [] Γ.env := by rfl) (hplain : (backTo pos (starEach [c] Γ.env)).any (·.1) = false := by rfl)
    (hc' : eval (.Call fe [e, c] [] pos) Γ.env = (do callWith pos (← eval fe Γ.env) [] (backTo pos (starEach [e, c] Γ.env)) (backToKw pos (keywordEach [] Γ.env))) := by rfl) : Ev Γ l news (.Call fe [e, c] [] pos) (· = .bool b) :=
  ev_bcall hf (evs_cons h1 (evs_cons h2 evs_nil he2) he) (fun vs h => by obtain ⟨v, rfl, u, ⟨v', rfl, u', rfl, rfl⟩, rfl⟩ := h; exact hr) he hplain hc'
theorem ev_sub {e i : Expr} {pos : Pos} {P R S : Value → Prop} (he : Ev Γ l news e P) (hi : Ev Γ l news i R) (ht : ∀ o k, P o → R k → Run Γ l news (subscriptTail e i o k) S) : Ev Γ l news (.Subscript e i pos) S := fun s Q E C k =>
  Subscript_ (he s _ E C fun o s₁ ho C₁ => hi s₁ _ E C₁ fun j s₂ hj C₂ => ht o j ho hj s₂ Q E C₂ k)
theorem sub_tup {e i : Expr} {t : Addr} {vs : List Value} {k : Nat} {x : Value} (h : ∀ s, Cx Γ l news s → IsTup s.heap t vs.toArray) (hk : vs[k]? = some x) (hs : vs.length ≤ 1000)
    (hs' : ∀ u, subscripted i false (.ref t) (.int (k : Int) u) = operate [.ref t, .int (k : Int) u] (getItem (.ref t) (.int (k : Int) u)) := by intro _; with_unfolding_all rfl) : ∀ o j, o = .ref t → IsI (k : Int) j → Run Γ l news (subscriptTail e i o j) (· = x) := by
  rintro _ _ rfl ⟨u, rfl⟩
  have hlt : k < vs.length := (List.getElem?_eq_some_iff.mp hk).1
  refine fun s Q E C q => tail_any (IsTup.typeIs (h s C)) slot_tuple_getitem.lookup (getItem_tuple (h s C) (by omega) (by omega) (j := k) ?_ (by simpa using hk) (q _ _ rfl C)) (hs' u)
  have := seqIndex_at (i := (k : Int)) (n := vs.toArray.size) (by omega) (by rw [List.size_toArray]; omega)
  simpa using this
theorem sub_list {e i : Expr} {t : Addr} {vs : List Value} {k : Nat} {x : Value} (h : ∀ s, Cx Γ l news s → s.heap.IsList t vs.toArray) (hk : vs[k]? = some x) (hs : vs.length ≤ 1000000)
    (hs' : ∀ u, subscripted i false (.ref t) (.int (k : Int) u) = operate [.ref t, .int (k : Int) u] (getItem (.ref t) (.int (k : Int) u)) := by intro _; with_unfolding_all rfl) : ∀ o j, o = .ref t → IsI (k : Int) j → Run Γ l news (subscriptTail e i o j) (· = x) := by
  rintro _ _ rfl ⟨u, rfl⟩
  have hlt : k < vs.length := (List.getElem?_eq_some_iff.mp hk).1
  exact fun s Q E C q => item_litK (h s C) (by omega) (by omega) (by simpa using hk) (q _ _ rfl C) (hs' u)
def SD (w : World) {K : Type} [DecidableEq K] (knd : KeyKind prg w K) (h : Heap) (d : Addr) (kvs : List (K × Value)) : Prop := h.DictOf knd d kvs ∧ (d == sysModules) = false
theorem SD.keeps {w : World} {K : Type} [DecidableEq K] {knd : KeyKind prg w K} {h h' : Heap} {d : Addr} {kvs : List (K × Value)} (u : SD w knd h d kvs) (k : ∀ b o, h.get? b = some o → h'.get? b = some o) : SD w knd h' d kvs := ⟨u.1.keep k, u.2⟩
theorem SD.kit {w : World} {K : Type} [DecidableEq K] {knd : KeyKind prg w K} {h : Heap} {d : Addr} {kvs : List (K × Value)} (u : SD w knd h d kvs) : KitAt d "dict" h := by
  walk_at "h"
  obtain ⟨⟨o, es, ep, ho, hx, r⟩, _⟩ := u
  walk_at "u"
  exact ⟨o, ho, hx.1⟩
theorem sub_dict {K : Type} [DecidableEq K] {knd : KeyKind prg Γ.w K} {e i : Expr} {d : Addr} {kvs : List (K × Value)} {k : K} {x : Value} {R : Value → Prop} (h : ∀ s, Cx Γ l news s → SD Γ.w knd s.heap d kvs) (hR : ∀ j, R j → knd.is k j = true) (hk : valueAt kvs k = some x)
    (hs' : ∀ j, R j → subscripted i false (.ref d) j = operate [.ref d, j] (getItem (.ref d) j) := by (rintro _ ⟨_, rfl⟩; with_unfolding_all rfl)) : ∀ o j, o = .ref d → R j → Run Γ l news (subscriptTail e i o j) (· = x) := by
  rintro _ j rfl hj
  exact Run.of fun s Q E C q => tail_any (h s C).1.typeIs slot_dict_getitem.lookup (wpAny_getItem_of (hR j hj) (h s C).1.mapOf hk (q _ _ rfl)) (hs' j hj)
theorem strIs {w : World} {x : Str} {j : Value} (h : IsS x j) : (PySem.strKind prg w).is x j = true := by obtain ⟨t, rfl⟩ := h; simp [PySem.strKind, Value.isStrOf]
theorem intIs {w : World} {x : Int} {j : Value} (h : IsI x j) : (PySem.intKind prg w).is x j = true := by obtain ⟨t, rfl⟩ := h; simp [PySem.intKind, Value.isInt]
theorem ev_get1 {K : Type} [DecidableEq K] {knd : KeyKind prg Γ.w K} {o e : Expr} {apos pos : Pos} {d : Addr} {kvs : List (K × Value)} {k : K} {R : Value → Prop} (ho : Ev Γ l news o (· = .ref d)) (he : Ev Γ l news e R) (h : ∀ s, Cx Γ l news s → SD Γ.w knd s.heap d kvs) (hR : ∀ j, R j → knd.is k j = true)
    (hm : MC Γ o "get" [e] apos pos) (hst : starEach [e] Γ.env = (false, eval e Γ.env) :: starEach [] Γ.env := by rfl) : Ev Γ l news (.Call (.Attribute o "get" apos) [e] [] pos) (· = (valueAt kvs k).getD .none) := fun s Q E C q =>
  hm.elim fun pl hm => hm _ _ _ (ho s _ E C fun v s₁ hv C₁ => by
    subst hv
    refine getMethod_builtin (h s₁ C₁).1.typeIs PySem.F.plainAttrs_dict PySem.F.slot_dict_get PySem.F.type_dict_get (h s₁ C₁).1.mapOf.noDict ?_
    refine callWith_method1 (spliced_more (he s₁ _ E C₁ fun x s₂ hx C₂ => spliced_none ?_) hst) hst (by rfl)
    exact call_meetsIn PySem.F.slot_dict_get (h s₂ C₂).1.typeIs PySem.F.entry_dict_get (PySem.F.args_dict_get_2 _ _) (meets_dict_get knd d (hR x hx) (h s₂ C₂).2) ⟨_, (h s₂ C₂).1.mapOf, q _ _ rfl (C₂.tok _)⟩)
end
structure PlainW (x : Str) : Prop where
  st : (["q", "Q", "cm"] : List Str).any (· == x) = false
  ln : (["w", "J", "j", "M", "d", "ri", "i", "gs"] : List Str).any (· == x) = false
  pt : (["m", "l", "c", "v", "y", "h", "re"] : List Str).any (· == x) = false
  cl : (["W", "W*"] : List Str).any (· == x) = false
  pn : (["S", "s", "f", "F", "f*", "B", "B*", "b", "b*", "n"] : List Str).any (· == x) = false
  co : (["g", "G", "rg", "RG", "k", "K", "cs", "CS", "sc", "SC", "scn", "SCN"] : List Str).any (· == x) = false
  te : (["Tc", "Tw", "Tz", "TL", "Ts", "Tr", "Tf"] : List Str).any (· == x) = false
  pl : (["Td", "TD", "Tm", "T*"] : List Str).any (· == x) = false
  sh : (["Tj", "TJ", "'", "\""] : List Str).any (· == x) = false
theorem plain_Do : PlainW "Do" := ⟨by kernel_rfl, by kernel_rfl, by kernel_rfl, by kernel_rfl, by kernel_rfl, by kernel_rfl, by kernel_rfl, by kernel_rfl, by kernel_rfl⟩
theorem plain_BI : PlainW "BI" := ⟨by kernel_rfl, by kernel_rfl, by kernel_rfl, by kernel_rfl, by kernel_rfl, by kernel_rfl, by kernel_rfl, by kernel_rfl, by kernel_rfl⟩
section
variable {Γ : G} {l : List (Str × Value)} {news : List (Addr × Obj)} {D : PD} {V : PV}
theorem pa_shelf (hf : PF Γ.g D) (hm : pdict Γ.w.params D V ∈ news)  : Run Γ l news (getAttr (.ref D.pa) "shelf" true) (· = .ref D.sa) := get_at (by kernel_rfl) (at_mix (v := .ref D.sa) hf.pa hm (by kernel_rfl) rfl)
theorem pa_resources (hf : PF Γ.g D) (hm : pdict Γ.w.params D V ∈ news) (hh : handedIn (V.re) = true) : Run Γ l news (getAttr (.ref D.pa) "resources" true) (· = V.re) := get_at (by kernel_rfl) (at_mix (v := V.re) hf.pa hm (by kernel_rfl) hh)
theorem pa_opener (hf : PF Γ.g D) (hm : pdict Γ.w.params D V ∈ news) (hh : handedIn (D.op) = true) : Run Γ l news (getAttr (.ref D.pa) "opener" true) (· = D.op) := get_at (by kernel_rfl) (at_mix (v := D.op) hf.pa hm (by kernel_rfl) hh)
theorem pa_state (hf : PF Γ.g D) (hm : pdict Γ.w.params D V ∈ news) (hh : handedIn (V.st) = true) : Run Γ l news (getAttr (.ref D.pa) "state" true) (· = V.st) := get_at (by kernel_rfl) (at_mix (v := V.st) hf.pa hm (by kernel_rfl) hh)
theorem pa_pile (hf : PF Γ.g D) (hm : pdict Γ.w.params D V ∈ news)  : Run Γ l news (getAttr (.ref D.pa) "pile" true) (· = .ref V.pl) := get_at (by kernel_rfl) (at_mix (v := .ref V.pl) hf.pa hm (by kernel_rfl) rfl)
theorem pa_floor (hf : PF Γ.g D) (hm : pdict Γ.w.params D V ∈ news) (hh : handedIn (V.fl) = true) : Run Γ l news (getAttr (.ref D.pa) "floor" true) (· = V.fl) := get_at (by kernel_rfl) (at_mix (v := V.fl) hf.pa hm (by kernel_rfl) hh)
theorem pa_path (hf : PF Γ.g D) (hm : pdict Γ.w.params D V ∈ news)  : Run Γ l news (getAttr (.ref D.pa) "path" true) (· = .ref D.xa) := get_at (by kernel_rfl) (at_mix (v := .ref D.xa) hf.pa hm (by kernel_rfl) rfl)
theorem pa_text (hf : PF Γ.g D) (hm : pdict Γ.w.params D V ∈ news)  : Run Γ l news (getAttr (.ref D.pa) "text" true) (· = .none) := get_at (by kernel_rfl) (at_mix (v := .none) hf.pa hm (by kernel_rfl) rfl)
theorem pa_skips (hf : PF Γ.g D) (hm : pdict Γ.w.params D V ∈ news) (hh : handedIn (V.sk) = true) : Run Γ l news (getAttr (.ref D.pa) "skips" true) (· = V.sk) := get_at (by kernel_rfl) (at_mix (v := V.sk) hf.pa hm (by kernel_rfl) hh)
theorem pa_open_forms (hf : PF Γ.g D) (hm : pdict Γ.w.params D V ∈ news)  : Run Γ l news (getAttr (.ref D.pa) "open_forms" true) (· = .ref D.fo) := get_at (by kernel_rfl) (at_mix (v := .ref D.fo) hf.pa hm (by kernel_rfl) rfl)
end
section
variable {w : World} {D : PD} {V : PV}
theorem check_place {x : Str} {t : Tok} (W : PlainW x) : CtP w 764 [.ref D.pa, .str x t] (PF · D) [pdict w.params D V] (· = .none) 1 := by
  refine ct_def (F := F_check_place) (binds := [(Str.ofString "painter", .ref D.pa), (Str.ofString "word", .str x t)]) (k := 0) G_check_place (by kernel_rfl) (by kernel_rfl) (by kernel_rfl) fun A s₀ g L outer base hf rm => ?_
  conv => { arg 4; whnf }
  have r1 := in_topS (Γ := ⟨w, A, s₀, g, L, outer, base, FI.env F_check_place L⟩) (l := [(Str.ofString "painter", .ref D.pa), (Str.ofString "word", .str x t)]) (news := [pdict w.params D V]) (k_PATH_WORDS _) s_PATH_WORDS W.pt
  have r2 := in_topS (Γ := ⟨w, A, s₀, g, L, outer, base, FI.env F_check_place L⟩) (l := [(Str.ofString "painter", .ref D.pa), (Str.ofString "word", .str x t)]) (news := [pdict w.params D V]) (k_CLIP_WORDS _) s_CLIP_WORDS W.cl
  have r3 := in_topS (Γ := ⟨w, A, s₀, g, L, outer, base, FI.env F_check_place L⟩) (l := [(Str.ofString "painter", .ref D.pa), (Str.ofString "word", .str x t)]) (news := [pdict w.params D V]) (k_PAINT_WORDS _) s_PAINT_WORDS W.pn
  refine ex_assign (ev_or_f (ev_cmp (ev_nameP (by walk_at "mem") ⟨_, rfl⟩) (ev_glob (g_PATH_WORDS _)) r1) (ev_or_f
    (ev_cmp (ev_nameP (by walk_at "mem") ⟨_, rfl⟩) (ev_glob (g_CLIP_WORDS _)) r2) (ev_bool1
    (ev_cmp (ev_nameP (by walk_at "mem") ⟨_, rfl⟩) (ev_glob (g_PAINT_WORDS _)) r3)))) (by kernel_rfl) (by walk_at "sub") (by kernel_rfl) fun v hv => ?_
  subst hv
  refine ex_if_f (ist_and_f (ist_ne_unit (ev_attr_attr (ev_attr_name (by walk_at "nm") (pa_path hf (by walk_at "mem"))) (get_at (a_parts _) (at_imm hf.path))) fun s C => hf.unit.keeps fun b o => C.keep)) ?_
  refine ex_if_f (ist_and_f (ist_cmp (ev_attr_name (by walk_at "nm") (pa_text hf (by walk_at "mem"))) ev_none (cmp_isnot_none (by rfl)))) ?_
  exact ex_nil fun s C => ⟨_, _, C, rfl, rfl⟩
end
section
variable {Γ : G} {l l' : List (Str × Value)} {news news' fz : List (Addr × Obj)} {s : Shared} {rest : List Stmt} {Q : Flow → Shared → Prop} {E : Value → Shared → Prop}
noncomputable def icmp : CmpOp → Int → Int → Option Bool
  | .Eq, a, b => some (a == b)
  | .NotEq, a, b => some (a != b)
  | .Lt, a, b => some (decide (a < b))
  | .LtE, a, b => some (decide (a ≤ b))
  | .Gt, a, b => some (decide (a > b))
  | .GtE, a, b => some (decide (a ≥ b))
  | _, _, _ => none
theorem cmp_int {op : CmpOp} {a b : Int} {c : Bool} (hc : icmp op a b = some c) : ∀ u v, IsI a u → IsI b v → Run Γ l news (compareOp op u v) (· = .bool c) := by
  rintro _ _ ⟨t, rfl⟩ ⟨t', rfl⟩
  refine Run.of fun s Q E C k => ?_
  cases op <;> simp only [icmp, Option.some.injEq, reduceCtorEq] at hc <;> subst hc
  · exact eq_int (k _ s.toks rfl)
  · exact ne_int (k _ s.toks rfl)
  · exact lt_int (k _ s.toks rfl)
  · exact le_int (k _ s.toks rfl)
  · exact gt_int (k _ s.toks rfl)
  · exact ge_int (k _ s.toks rfl)
theorem cmp_is_none {v : Value} {c : Bool} (hc : (v == .none) = c) : ∀ u z, u = v → z = Value.none → Run Γ l news (compareOp .Is u z) (· = .bool c) := by
  rintro _ _ rfl rfl
  exact Run.of fun s Q E C k => is_none_gen (by rw [hc]; exact k _ s.toks rfl)
theorem ev_b1 {fe e : Expr} {id : String} {pos : Pos} {P R : Value → Prop} (hf : Ev Γ l news fe (· = .builtin id)) (he : Ev Γ l news e P) (hc : ∀ v, P v → Run Γ l news (call (.builtin id) [v]) R)
    (hst : starEach (e :: []) Γ.env = (false, eval e Γ.env) :: starEach [] Γ.env := by rfl)
    (hc' : eval (.Call fe [e] [] pos) Γ.env = (do callWith pos (← eval fe Γ.env) [] (backTo pos (starEach [e] Γ.env)) (backToKw pos (keywordEach [] Γ.env))) := by rfl) : Ev Γ l news (.Call fe [e] [] pos) R :=
  ev_bcall hf (evs_cons he evs_nil hst) (fun vs h => by obtain ⟨v, hv, u, rfl, rfl⟩ := h; exact hc v hv) hst (by rfl) hc'
theorem len_list' {t : Addr} {vs : List Value} (h : ∀ s, Cx Γ l news s → s.heap.IsList t vs.toArray) (hn : vs.length ≤ 1000000) : Run Γ l news (call (.builtin "len") [.ref t]) (IsI (vs.length : Int)) := fun s Q E C k =>
  call_len_list (h s C) (by rw [List.size_toArray]; omega) (k _ _ ⟨_, by rw [List.size_toArray]⟩ ((C.tok _).tok _))
theorem evx_tup {es : List Expr} {kk : Nat} {pos : Pos} {R : List Value → Prop} {may : Prop} (h : Evs Γ l news pos es R) (hn : ∀ vs, R vs → vs.length ≤ 1000) :
    EvX Γ l news (.Tuple es kk pos) (fun v n => ∃ vs a, R vs ∧ v = .ref a ∧ n = (a, { cls := .type "tuple", data := .seq vs.toArray }) :: news) may := fun s Q E C k _ =>
  Tuple_ (h s _ E C fun vs s₁ hv C₁ => new_tuple C₁ (fun a s₂ C₂ => k _ _ _ ⟨vs, a, hv, rfl, rfl⟩ C₂) (hn vs hv))
theorem ev_tup {es : List Expr} {kk : Nat} {pos : Pos} {R : List Value → Prop} (h : Evs Γ l news pos es R) (hn : ∀ vs, R vs → vs.length ≤ 1000) : Ev Γ l news (.Tuple es kk pos) (fun v => ∃ a, v = .ref a) := fun s Q E C k =>
  (evx_tup (may := False) h hn) s Q E C (fun v n s' hP C' => by obtain ⟨vs, a, hv, rfl, rfl⟩ := hP; exact k _ _ ⟨a, rfl⟩ (C'.drop (List.sublist_cons_self _ _))) (fun h => h.elim)
theorem ev_get2 {K : Type} [DecidableEq K] {knd : KeyKind prg Γ.w K} {o e f : Expr} {apos pos : Pos} {d : Addr} {kvs : List (K × Value)} {k : K} {R R' : Value → Prop} (ho : Ev Γ l news o (· = .ref d)) (he : Ev Γ l news e R) (hf : Ev Γ l news f R') (h : ∀ s, Cx Γ l news s → SD Γ.w knd s.heap d kvs) (hR : ∀ j, R j → knd.is k j = true)
    (hm : MC Γ o "get" [e, f] apos pos) (hst : starEach [e, f] Γ.env = (false, eval e Γ.env) :: starEach [f] Γ.env := by rfl) (hst2 : starEach [f] Γ.env = (false, eval f Γ.env) :: starEach [] Γ.env := by rfl) :
    Ev Γ l news (.Call (.Attribute o "get" apos) [e, f] [] pos) (fun v => ∃ x, R' x ∧ v = (valueAt kvs k).getD x) := fun s Q E C q =>
  hm.elim fun pl hm => hm _ _ _ (ho s _ E C fun v s₁ hv C₁ => by
    subst hv
    refine getMethod_builtin (h s₁ C₁).1.typeIs PySem.F.plainAttrs_dict PySem.F.slot_dict_get PySem.F.type_dict_get (h s₁ C₁).1.mapOf.noDict ?_
    refine callWith_method1 (spliced_more (he s₁ _ E C₁ fun x s₂ hx C₂ => spliced_more (hf s₂ _ E C₂ fun y s₃ hy C₃ => spliced_none ?_) hst2) hst) hst (by rw [hst2]; rfl)
    exact call_meetsIn PySem.F.slot_dict_get (h s₃ C₃).1.typeIs PySem.F.entry_dict_get (PySem.F.args_dict_get_3 _ _ _) (meets_dict_get_default knd d (hR x hx) (h s₃ C₃).2 y) ⟨_, (h s₃ C₃).1.mapOf, q _ _ ⟨y, hy, rfl⟩ (C₃.tok _)⟩)
theorem ex_unpack2 {x y : Str} {px py tp pos : Pos} {kk : Nat} {e : Expr} {P : Value → Value → List (Addr × Obj) → Prop} {may : Prop}
    (h : EvX Γ l news e (fun v n => ∃ t a b, v = .ref t ∧ (∀ s, Cx Γ l n s → IsTup s.heap t #[a, b]) ∧ P a b n) may) (hE : may → ∀ e s', Flies Γ e s' → E e s')
    (hx : Γ.env.kindOf x = some .local) (hy : Γ.env.kindOf y = some .local) (hl : ∀ p ∈ l', p ∈ l) (hn : (l'.all fun p => !(p.1 == x)) = true) (hn2 : (l'.all fun p => !(p.1 == y)) = true) (hxy : (x == y) = false)
    (k : ∀ a b n, P a b n → Ex Γ ((y, b) :: (x, a) :: l') n rest Q E)
    (hs : swapsWithSole [.Tuple [.Name x px, .Name y py] kk tp] e pos.line Γ.env = pure false := by rfl) (hw : swappedStores [.Tuple [.Name x px, .Name y py] kk tp] e Γ.env = pure none := by rfl)
    (ha : (assignEach [.Name x px, .Name y py] Γ.env) = [(false, assign (.Name x px) Γ.env), (false, assign (.Name y py) Γ.env)] := by rfl) (hlo : Γ.env.locals = Γ.L := by rfl) :
    Ex Γ l news (.Assign [.Tuple [.Name x px, .Name y py] kk tp] e pos :: rest) Q E := fun s C =>
  wpAny_execs_cons (Assign_Tuple (h s _ E C (fun v n s₁ hv C₁ => by
    walk_at "h"
    obtain ⟨t, a, b, rfl, ht, hP⟩ := hv
    walk_at "u"
    obtain ⟨m, F, hm⟩ := C₁.fr
    refine unpackN_ F C₁.nw (ht s₁ C₁) C.ok.hh (by rw [ha]; rfl) (by rw [ha]; rfl) fun h' F' N' => ?_
    have C₂ : Cx Γ l n { s₁ with heap := h' } := ⟨C₁.ok, ⟨m, F', hm⟩, N', C₁.nd, C₁.gens, C₁.drawn, C₁.os⟩
    rw [ha]
    refine assignInOrder_cons (assign_Name (st_local C₂ hx hl hn (fun s₃ C₃ => ?_) hlo))
    refine assignInOrder_cons (assign_Name (st_local C₃ hy (fun _ h => h) ?_ (fun s₄ C₄ => assignInOrder_nil (k a b n hP s₄ C₄)) hlo))
    rw [List.all_cons, hn2, hxy]; rfl) hE) hs hw)
def ROk (i N : Nat) (a : Int) (o : Obj) : Prop := o = { cls := .type "range_iterator", dict := none, data := .fields #[rawInt (a + i), rawInt ((N : Int) - i), rawInt 1], slots := #[] }
theorem range_iter {it : Addr} {N : Nat} {a : Int} : Iter Γ it N (fun i v => IsI (a + i) v) (fun i o => ROk i N a o) where
  next i o l n s Q E hi ho C k := by
    unfold ROk at ho
    subst ho
    refine wpAny_pyNext_range_item (x := a + i) (left := (N : Int) - i) (step := 1) (C.obj (List.mem_append_right _ (.head _))) (by omega) fun h' hit hs => ?_
    refine k _ _ _ ⟨_, rfl⟩ rfl (C.same (n := s.toks + 1) rep_last hs ?_)
    rw [hit, show a + (i : Int) + 1 = a + ((i + 1 : Nat) : Int) by omega, show (N : Int) - i - 1 = (N : Int) - ((i + 1 : Nat) : Int) by omega]
  done o l n s Q E ho C k := by
    unfold ROk at ho
    subst ho
    exact wpAny_pyNext_range_end (x := a + N) (left := (N : Int) - N) (step := 1) C.ok.hh (C.obj (List.mem_append_right _ (.head _))) (by omega) fun h' hs => k _ (C.ext hs)
theorem makes_range {iter : Expr} {a b : Int} {N : Nat} (he : ∀ (s : Shared) (Q : Value → Shared → Prop) (E : Value → Shared → Prop), Cx Γ l news s → (∀ r t u v s', Cx Γ l ((r, { cls := .type "range", data := .fields #[.int a t, .int b u, .int 1 v] }) :: news) s' → Q (.ref r) s') → wpAny (model prg Γ.w) Γ.A (eval iter Γ.env) Q E s)
    (hN : Builtin.Range.rangeSize a b 1 = (N : Int)) (hs : Builtin.Range.small a b 1 = true) (hf : ∀ v, foldedSetIterable iter Γ.env v = pure v) :
    MakesIter Γ l news iter N (fun i v => IsI (a + i) v) (fun i o => ROk i N a o) := fun s Q E C k => by
  refine wpAny_bind (he s _ E C fun r t u v s₁ C₁ => ?_)
  rw [hf]
  refine wpAny_bind (wpAny_pure (wpAny_bind (wpAny_standAt (wpAny_holding ?_))))
  refine wpAny_pyIter_range (C₁.obj (.head _)) hs ?_
  have C₂ := (C₁.drop (List.sublist_cons_self _ _)).allocE { cls := .type "range_iterator", data := .fields #[rawInt a, rawInt (Builtin.Range.rangeSize a b 1), rawInt 1] } rfl
  refine k _ _ _ ?_ range_iter C₂
  unfold ROk
  rw [hN]; simp
theorem ev_range1 {fe e : Expr} {pos : Pos} {b : Int} (hf : Ev Γ l news fe (· = .type "range")) (he : Ev Γ l news e (IsI b)) (s : Shared) (Q : Value → Shared → Prop) (E : Value → Shared → Prop) (C : Cx Γ l news s)
    (k : ∀ r t u v s', Cx Γ l ((r, { cls := .type "range", data := .fields #[.int 0 t, .int b u, .int 1 v] }) :: news) s' → Q (.ref r) s')
    (hst : starEach (e :: []) Γ.env = (false, eval e Γ.env) :: starEach [] Γ.env := by rfl)
    (hc' : eval (.Call fe [e] [] pos) Γ.env = (do callWith pos (← eval fe Γ.env) [] (backTo pos (starEach [e] Γ.env)) (backToKw pos (keywordEach [] Γ.env))) := by rfl) : wpAny (model prg Γ.w) Γ.A (eval (.Call fe [e] [] pos) Γ.env) Q E s :=
  Call_ (hf s _ E C fun v s' hv C' => by
    subst hv
    refine PyProof.Rows.callWith_type1 (spliced_more (he s' _ E C' fun v s₂ hv C₂ => spliced_none ?_) hst) hst (by rfl)
    obtain ⟨u, rfl⟩ := hv
    exact call_range_1 (k _ _ _ _ _ ((C₂.alloc _ rfl).tok _))) hc'
theorem ev_range2 {fe e f : Expr} {pos : Pos} {a b : Int} (hf : Ev Γ l news fe (· = .type "range")) (he : Ev Γ l news e (IsI a)) (he2 : Ev Γ l news f (IsI b)) (s : Shared) (Q : Value → Shared → Prop) (E : Value → Shared → Prop) (C : Cx Γ l news s)
    (k : ∀ r t u v s', Cx Γ l ((r, { cls := .type "range", data := .fields #[.int a t, .int b u, .int 1 v] }) :: news) s' → Q (.ref r) s')
    (hst : starEach (e :: [f]) Γ.env = (false, eval e Γ.env) :: starEach [f] Γ.env := by rfl) (hst2 : starEach [f] Γ.env = (false, eval f Γ.env) :: starEach [] Γ.env := by rfl)
    (hc' : eval (.Call fe [e, f] [] pos) Γ.env = (do callWith pos (← eval fe Γ.env) [] (backTo pos (starEach [e, f] Γ.env)) (backToKw pos (keywordEach [] Γ.env))) := by rfl) : wpAny (model prg Γ.w) Γ.A (eval (.Call fe [e, f] [] pos) Γ.env) Q E s :=
  Call_ (hf s _ E C fun v s' hv C' => by
    subst hv
    refine PyProof.Rows.callWith_type1 (spliced_more (he s' _ E C' fun v s₂ hv C₂ => spliced_more (he2 s₂ _ E C₂ fun v' s₃ hv' C₃ => spliced_none ?_) hst2) hst) hst (by rw [hst2]; rfl)
    obtain ⟨u, rfl⟩ := hv
    obtain ⟨u', rfl⟩ := hv'
    exact call_range_2 (k _ _ _ _ _ ((C₃.alloc _ rfl).tok _))) hc'
theorem ev_attr_sub {e i : Expr} {n : Str} {sp pos : Pos} {a : Addr} {P : Value → Prop} (he : Ev Γ l news (.Subscript e i sp) (· = .ref a)) (hg : Run Γ l news (getAttr (.ref a) n true) P) : Ev Γ l news (.Attribute (.Subscript e i sp) n pos) P := fun s Q E C k =>
  Attribute_any_ (he s _ E C fun v s' hv C' => by subst hv; exact hg s' Q E C' k) (by with_unfolding_all rfl)
theorem ev_neg {e : Expr} {pos : Pos} {i : Int} (h : Ev Γ l news e (IsI i)) : Ev Γ l news (.UnaryOp .USub e pos) (IsI (-i)) := fun s Q E C k =>
  UnaryOp_ (h s _ E C fun v s' hv C' => by obtain ⟨t, rfl⟩ := hv; exact neg_int (k _ _ ⟨_, rfl⟩ (C'.tok _)))
theorem ev_if_t {t a b : Expr} {pos : Pos} {P : Value → Prop} (ht : IsT Γ l news t true) (h : Ev Γ l news a P) : Ev Γ l news (.IfExp t a b pos) P := fun s Q E C k =>
  IfExp_ (ht s _ E C fun c s' hc C' => by subst hc; rw [if_pos rfl]; exact h s' Q E C' k)
theorem ev_if_f {t a b : Expr} {pos : Pos} {P : Value → Prop} (ht : IsT Γ l news t false) (h : Ev Γ l news b P) : Ev Γ l news (.IfExp t a b pos) P := fun s Q E C k =>
  IfExp_ (ht s _ E C fun c s' hc C' => by subst hc; rw [if_neg (by decide)]; exact h s' Q E C' k)
theorem evx_if_t {t a b : Expr} {pos : Pos} {P : Value → List (Addr × Obj) → Prop} {may : Prop} (ht : IsT Γ l news t true) (h : EvX Γ l news a P may) : EvX Γ l news (.IfExp t a b pos) P may := fun s Q E C k hE =>
  IfExp_ (ht s _ E C fun c s' hc C' => by subst hc; rw [if_pos rfl]; exact h s' Q E C' k hE)
theorem evx_if_f {t a b : Expr} {pos : Pos} {P : Value → List (Addr × Obj) → Prop} {may : Prop} (ht : IsT Γ l news t false) (h : EvX Γ l news b P may) : EvX Γ l news (.IfExp t a b pos) P may := fun s Q E C k hE =>
  IfExp_ (ht s _ E C fun c s' hc C' => by subst hc; rw [if_neg (by decide)]; exact h s' Q E C' k hE)
end
section
variable {Γ : G} {l l' : List (Str × Value)} {news news' fz : List (Addr × Obj)}
theorem own_Name (P : Params) : ownOk (KL P) 204 = true := by kernel_rfl
theorem own_Stream (P : Params) : ownOk (KL P) 247 = true := by kernel_rfl
theorem own_Reference (P : Params) : ownOk (KL P) 275 = true := by kernel_rfl
theorem a_ntext (P : Params) : attrOk (KL P) 204 "text" = true := by kernel_rfl
theorem a_rnumber (P : Params) : attrOk (KL P) 275 "number" = true := by kernel_rfl
theorem a_rgeneration (P : Params) : attrOk (KL P) 275 "generation" = true := by kernel_rfl
theorem a_shead (P : Params) : attrOk (KL P) 247 "head" = true := by kernel_rfl
theorem a_soctets (P : Params) : attrOk (KL P) 247 "octets" = true := by kernel_rfl
theorem a_table (P : Params) : attrOk (KL P) 391 "table" = true := by kernel_rfl
inductive NotRef (g : Heap) : Value → Prop
  | none : NotRef g .none
  | dict {a : Addr} : KitAt a "dict" g → NotRef g (.ref a)
  | stream {a : Addr} : Ins g a 247 → NotRef g (.ref a)
  | name {a : Addr} : Ins g a 204 → NotRef g (.ref a)
theorem KitAt.keeps {h h' : Heap} {a : Addr} {T : String} (u : KitAt a T h) (k : ∀ b o, h.get? b = some o → h'.get? b = some o) : KitAt a T h' := let ⟨o, h1, h2⟩ := u; ⟨o, k _ _ h1, h2⟩
theorem NotRef.keeps {h h' : Heap} {v : Value} (u : NotRef h v) (k : ∀ b o, h.get? b = some o → h'.get? b = some o) : NotRef h' v := by
  cases u with
  | none => exact .none
  | dict a => exact .dict (KitAt.keeps a k)
  | stream a => exact .stream (a.keeps k)
  | name a => exact .name (a.keeps k)
theorem NotRef.isi {v : Value} (u : NotRef Γ.g v) : Run Γ l news (call (.builtin "isinstance") [v, .ref 275]) (· = .bool false) := by
  cases u with
  | none => exact isi_none (by kernel_rfl)
  | dict a => exact isi_dict (fun s C => KitAt.keeps a fun b o => C.keep) (by kernel_rfl)
  | stream a => exact isi_own (own_Stream _) (fun s C => a.keeps fun b o => C.keep) (by kernel_rfl)
  | name a => exact isi_own (own_Name _) (fun s C => a.keeps fun b o => C.keep) (by kernel_rfl)
inductive Fetches (w : World) (g : Heap) (tb : Addr) : Value → Value → Prop
  | plain {v : Value} : NotRef g v → Fetches w g tb v v
  | ref {r tp : Addr} {v : Value} {k gn : Int} {t t' t'' : Tok} {kvs : List (Int × Value)} : At g r 275 "number" (.int k t) → At g r 275 "generation" (.int gn t') → SD w (PySem.intKind prg w) g tb kvs → valueAt kvs k = some (.ref tp) →
      IsTup g tp #[.int gn t'', v] → NotRef g v → Fetches w g tb (.ref r) v
theorem Fetches.keeps {w : World} {h h' : Heap} {tb : Addr} {v v' : Value} (u : Fetches w h tb v v') (k : ∀ b o, h.get? b = some o → h'.get? b = some o) : Fetches w h' tb v v' := by
  cases u with
  | plain a => exact .plain (a.keeps k)
  | ref a b c d e f => exact .ref (a.keeps k) (b.keeps k) (c.keeps k) d (e.keeps k) (f.keeps k)
end
section
variable {Γ : G} {l l' : List (Str × Value)} {news news' fz : List (Addr × Obj)} {s : Shared} {rest : List Stmt}
noncomputable def methOk (K : Frag) (C : Addr) (n : Str) (f : Addr) : Bool := plainGet K C n && (findIn K (.ref C) n == some (some (.ref f))) && (typeIn K (.ref f) == some (.type "function"))
theorem evx_meth {o : Expr} {n : Str} {apos pos : Pos} {x C : Addr} {F : FI} {e : Expr} {r : List Expr} {R : List Value → Prop} {P : Value → List (Addr × Obj) → Prop} {may : Prop} (G : F.Good) (ok : methOk (KL Γ.w.params) C n F.f = true) (ho : Ev Γ l news o (· = .ref x)) (hno : ∀ s, Cx Γ l news s → NoAt s.heap x C n)
    (ha : Evs Γ l news pos (e :: r) R) (hc : ∀ vs, R vs → CallX Γ l news F.f (.ref x :: vs) P may) (hm : MC Γ o n (e :: r) apos pos) (he : starEach (e :: r) Γ.env = (false, eval e Γ.env) :: starEach r Γ.env := by rfl) :
    EvX Γ l news (.Call (.Attribute o n apos) (e :: r) [] pos) P may := fun s Q E C k hE =>
  hm.elim fun pl hm => hm _ _ _ (ho s _ E C fun v s₁ hv C₁ => by
    subst hv
    unfold methOk at ok
    simp only [Bool.and_eq_true, beq_iff_eq] at ok
    obtain ⟨⟨k1, k2⟩, k3⟩ := ok
    walk_at "h"
    obtain ⟨d, es, i, h1, h2, h3⟩ := hno s₁ C₁
    walk_at "u"
    refine method_fn C₁.k (⟨h1, rfl, rfl, h2⟩ : InstAt s₁.heap x (instObj _ d) _ (some (dictOf es i))) (plainGet_of k1).1 (plainGet_of k1).2 k2 k3 ?_ ?_
    · unfold shadowIn
      have h3' : lookIn n (dictOf es i) = some none := h3
      exact congrArg (fun z => Option.map (fun x => x.isSome) z) h3'
    · exact call_fn (first := [.ref x]) (G.k _) rfl ha C₁ (fun vs s₂ hv C₂ => hc vs hv s₂ Q E C₂ k hE) he)
theorem ev_meth {o : Expr} {n : Str} {apos pos : Pos} {x C : Addr} {F : FI} {e : Expr} {r : List Expr} {R : List Value → Prop} {P : Value → Prop} (G : F.Good) (ok : methOk (KL Γ.w.params) C n F.f = true) (ho : Ev Γ l news o (· = .ref x)) (hno : ∀ s, Cx Γ l news s → NoAt s.heap x C n)
    (ha : Evs Γ l news pos (e :: r) R) (hc : ∀ vs, R vs → Run Γ l news (call (.ref F.f) (.ref x :: vs)) P) (hm : MC Γ o n (e :: r) apos pos) (he : starEach (e :: r) Γ.env = (false, eval e Γ.env) :: starEach r Γ.env := by rfl) :
    Ev Γ l news (.Call (.Attribute o n apos) (e :: r) [] pos) P := fun s Q E C k =>
  (evx_meth (may := False) (P := fun v n => P v ∧ n = news) G ok ho hno ha (fun vs h s Q E C k _ => hc vs h s Q E C fun v s' hv C' => k v _ s' ⟨hv, rfl⟩ C') hm he) s Q E C (fun v n s' hP C' => by obtain ⟨hv, rfl⟩ := hP; exact k v s' hv C') (fun h => h.elim)
theorem m_fetch (P : Params) : methOk (KL P) 391 "fetch" 327 = true := by kernel_rfl
theorem m_get (P : Params) : methOk (KL P) 391 "get" F_Lookup_get.f = true := by kernel_rfl
end
section
variable {w : World} {D : PD} {V : PV}
theorem name_of {vs n : Addr} {x : Str} : CtP w 642 [.ref vs] (fun g => g.IsList vs #[.ref n] ∧ ∃ t, At g n 204 "text" (.str x t)) [] (IsS x) 1 := by
  refine ct_def (F := F_name_of) (binds := [(Str.ofString "values", .ref vs)]) (k := 0) G_name_of (by kernel_rfl) (by kernel_rfl) (by kernel_rfl) fun A s₀ g L outer base hf rm => ?_
  obtain ⟨hl, t, ht⟩ := hf
  conv => { arg 4; whnf }
  have hlst : ∀ s, Cx ⟨w, A, s₀, g, L, outer, base, FI.env F_name_of L⟩ [(Str.ofString "values", .ref vs)] [] s → s.heap.IsList vs ([.ref n] : List Value).toArray := fun s C => hl.at fun o e => C.keep e
  refine ex_if_f (ist_or_f (ist_cmp (ev_b1 (ev_bltn (b_len _) (b_len' _)) (by walk_at "nm") fun v hv => by subst hv; exact len_list' hlst (by simp)) ev_int (cmp_int (by rfl)))
    (ist_or_f (ist_not (b := true) (ist_bool (ev_isi (x := .ref n) (ev_bltn (b_isinstance _) (b_isinstance' _)) (ev_sub (by walk_at "nm") (ev_int (x := 0)) (sub_list (k := 0) hlst rfl (by simp))) (ev_glob (g_Name _))
      (isi_own (own_Name _) (fun s C => ht.ins.keeps fun b o => C.keep) (by kernel_rfl)))) (by rfl)) ist_or_nil)) ?_
  exact ex_ret (ev_attr_sub (ev_sub (by walk_at "nm") (ev_int (x := 0)) (sub_list (k := 0) hlst rfl (by simp))) ((get_at (a_ntext _) (at_imm ht)).mono fun v hv => ⟨t, hv⟩)) fun v s hv C => ⟨_, _, C, rfl, hv⟩
theorem fetch {sa tb : Addr} {v r : Value} : CtP w F_Lookup_fetch.f [.ref sa, v] (fun g => At g sa 391 "table" (.ref tb) ∧ Fetches w g tb v r) [] (· = r) 1 := by
  refine ct_def (F := F_Lookup_fetch) (binds := [(Str.ofString "self", .ref sa), (Str.ofString "value", v)]) (k := 0) G_Lookup_fetch (by kernel_rfl) (by kernel_rfl) (by kernel_rfl) fun A s₀ g L outer base hf rm => ?_
  obtain ⟨htb, hF⟩ := hf
  conv => { arg 4; whnf }
  refine ex_assign (by walk_at "nm") (by kernel_rfl) (by walk_at "sub") (by kernel_rfl) fun v' hv => ?_
  subst hv
  refine ex_for (N := 30) (may := False) (item := fun i v => IsI (0 + i) v) (ok := fun i o => ROk i 30 0 o) (fun i l n => n = [] ∧ ((i = 0 ∧ l = [(Str.ofString "here", v'), (Str.ofString "self", .ref sa), (Str.ofString "value", v')]) ∨ (NotRef g r ∧ l = [(Str.ofString "here", r), (Str.ofString "self", .ref sa), (Str.ofString "value", v')])))
    (makes_range (a := 0) (b := 30) (fun s Q E C k => ev_range1 (ev_bltn (b_range _) (b_range' _)) ((ev_glob (g_MOST_HOPS _)).mono fun _ e => ⟨_, e⟩) s Q E C k) (by kernel_rfl) (by kernel_rfl) (fun _ => by rfl))
    ⟨rfl, .inl ⟨rfl, rfl⟩⟩ (by kernel_rfl) ?_ ?_ ?_
  · rintro i l n ⟨-, ⟨-, rfl⟩ | ⟨-, rfl⟩⟩ <;> kernel_rfl
  · rintro i x l n fz hi - ⟨rfl, ⟨rfl, rfl⟩ | ⟨hr, rfl⟩⟩
    · cases hF with
      | plain hp =>
        refine ex_if_t (ist_not (b := false) (ist_bool (ev_isi (ev_bltn (b_isinstance _) (b_isinstance' _)) (by walk_at "nm") (ev_glob (g_Reference _)) hp.isi)) (by rfl)) ?_
        exact ex_ret (by walk_at "nm") fun v s hv C => ⟨_, _, C.drop (List.nil_sublist _), rfl, hv⟩
      | @ref r₀ tp _ k gn t t' t'' kvs h1 h2 h3 h4 h5 h6 =>
        refine ex_if_f (ist_not (b := true) (ist_bool (ev_isi (ev_bltn (b_isinstance _) (b_isinstance' _)) (by walk_at "nm") (ev_glob (g_Reference _))
          (isi_own (own_Reference _) (fun s C => h1.ins.keeps fun b o => C.keep) (by kernel_rfl)))) (by rfl)) ?_
        refine ex_unpack2 (P := fun a b n => a = .int gn t'' ∧ b = r ∧ n = [] ++ fz) (l' := [(Str.ofString "here", .ref r₀), (Str.ofString "self", .ref sa), (Str.ofString "value", .ref r₀)]) (may := False) (EvX.mono (evx_of (ev_get2 (knd := PySem.intKind prg w) (k := k) (kvs := kvs) (R := IsI k)
            (ev_attr_name (by walk_at "nm") (get_at (a_table _) (at_imm htb))) ((ev_attr_name (by walk_at "nm") (get_at (a_rnumber _) (at_imm h1))).mono fun _ e => ⟨_, e⟩) (ev_tup (evs_cons (ev_neg ev_int) (evs_cons ev_none evs_nil)) ?ln)
            (fun s C => h3.keeps fun b o => C.keep) (fun _ => intIs) (by walk_at "mc")))
          (fun v n h => by
            walk_at "h"
            obtain ⟨⟨x, hx, e⟩, rfl⟩ := h
            walk_at "u"
            rw [h4] at e
            exact ⟨tp, _, _, e, fun s C => h5.keeps fun b o => C.keep, rfl, rfl, rfl⟩)) (fun h => h.elim) (by kernel_rfl) (by kernel_rfl) (by walk_at "sub") (by kernel_rfl) (by kernel_rfl) (by kernel_rfl) fun a b n hP => ?_
        case ln => rintro _ ⟨v, hv, u, ⟨v', hv', u', rfl, rfl⟩, rfl⟩; simp
        obtain ⟨rfl, rfl, rfl⟩ := hP
        refine ex_if_f (ist_cmp (ev_nameP (P := IsI gn) (by walk_at "mem") ⟨_, rfl⟩) ((ev_attr_name (by walk_at "nm") (get_at (a_rgeneration _) (at_imm h2))).mono fun _ e => ⟨_, e⟩) (cmp_int (by simp [icmp]))) ?_
        refine ex_assign (l' := [(Str.ofString "self", .ref sa), (Str.ofString "value", .ref r₀)]) (by walk_at "nm") (by kernel_rfl) (by walk_at "sub") (by kernel_rfl) fun v' hv => ?_
        subst hv
        exact ex_nil fun s C => ⟨_, [], ⟨rfl, .inr ⟨h6, rfl⟩⟩, C⟩
    · refine ex_if_t (ist_not (b := false) (ist_bool (ev_isi (ev_bltn (b_isinstance _) (b_isinstance' _)) (by walk_at "nm") (ev_glob (g_Reference _)) hr.isi)) (by rfl)) ?_
      exact ex_ret (by walk_at "nm") fun v s hv C => ⟨_, _, C.drop (List.nil_sublist _), rfl, hv⟩
  · rintro l n ⟨rfl, ⟨h0, -⟩ | ⟨hr, rfl⟩⟩
    · cases h0
    · exact ex_ret (ev_if_f (ist_bool (ev_isi (ev_bltn (b_isinstance _) (b_isinstance' _)) (by walk_at "nm") (ev_glob (g_Reference _)) hr.isi)) (by walk_at "nm")) fun v s hv C => ⟨_, _, C, rfl, hv⟩
theorem lget {sa tb hd : Addr} {kvs : List (Str × Value)} {key : Str} {t : Tok} {r : Value} : CtP w F_Lookup_get.f [.ref sa, .ref hd, .str key t] (fun g => ShF g sa tb ∧ SD w (PySem.strKind prg w) g hd kvs ∧ Fetches w g tb ((valueAt kvs key).getD .none) r) [] (· = r) 2 := by
  refine ct_def (F := F_Lookup_get) (binds := [(Str.ofString "self", .ref sa), (Str.ofString "head", .ref hd), (Str.ofString "key", .str key t)]) (k := 1) G_Lookup_get (by kernel_rfl) (by kernel_rfl) (by kernel_rfl) fun A s₀ g L outer base hf rm => ?_
  obtain ⟨hs, hd, hF⟩ := hf
  conv => { arg 4; whnf }
  exact ex_ret (ev_meth G_Lookup_fetch (m_fetch _) (by walk_at "nm") (fun s C => hs.fetch.keeps fun b o => C.keep)
    (evs_cons (ev_get1 (knd := PySem.strKind prg w) (k := key) (kvs := kvs) (R := IsS key) (by walk_at "nm") (ev_nameP (by walk_at "mem") ⟨_, rfl⟩) (fun s C => hd.keeps fun b o => C.keep) (fun _ => strIs) (by walk_at "mc")) evs_nil)
    (fun vs hv => by
      walk_at "h"
      obtain ⟨v, rfl, u, rfl, rfl⟩ := hv
      walk_at "u"
      exact CtP.run0 fetch (rm.le (by decide)) ⟨hs.table, hF⟩ fun h h' hf k => ⟨hf.1.keeps k, hf.2.keeps k⟩) (by walk_at "mc")) fun v s hv C => ⟨_, _, C, rfl, hv⟩
theorem named {ra x : Addr} {kvs xvs : List (Str × Value)} {wd c : Str} {t t' : Tok} : CtP w F_named.f [.ref D.pa, .str wd t, .str c t']
    (fun g => PF g D ∧ V.re = .ref ra ∧ SD w (PySem.strKind prg w) g ra kvs ∧ valueAt kvs wd = some (.ref x) ∧ SD w (PySem.strKind prg w) g x xvs) [pdict w.params D V] (· = (valueAt xvs c).getD .none) 3 := by
  refine ct_def (F := F_named) (binds := [(Str.ofString "painter", .ref D.pa), (Str.ofString "word", .str wd t), (Str.ofString "name", .str c t')]) (k := 2) G_named (by kernel_rfl) (by kernel_rfl) (by kernel_rfl) fun A s₀ g L outer base hf rm => ?_
  walk_at "h"
  obtain ⟨hf, hre, hr, hv, hx⟩ := hf
  walk_at "u"
  conv => { arg 4; whnf }
  refine ex_assign (ev_meth (x := D.sa) G_Lookup_get (m_get _) (ev_attr_name (by walk_at "nm") (pa_shelf hf (by walk_at "mem"))) (fun s C => hf.shelf.get.keeps fun b o => C.keep)
    (evs_cons (ev_attr_name (by walk_at "nm") (pa_resources hf (by walk_at "mem") (by rw [hre]; rfl))) (evs_cons (by walk_at "nm") evs_nil))
    (fun vs hv' => by
      walk_at "h"
      obtain ⟨v, rfl, u, ⟨v', rfl, u', rfl, rfl⟩, rfl⟩ := hv'
      walk_at "u"
      rw [hre]
      exact CtP.run0 (lget (tb := D.tb) (kvs := kvs) (r := .ref x)) (rm.le (by decide)) ⟨hf.shelf, hr, by rw [hv]; exact .plain (.dict hx.kit)⟩ fun h h' hf k => ⟨hf.1.keeps k, hf.2.1.keeps k, hf.2.2.keeps k⟩) (by walk_at "mc")) (by kernel_rfl) (by walk_at "sub") (by kernel_rfl) fun v hv => ?_
  subst hv
  refine ex_if_f (ist_not (b := true) (ist_bool (ev_isi (ev_bltn (b_isinstance _) (b_isinstance' _)) (by walk_at "nm") (ev_bltn (b_dict _) (b_dict' _)) (isi_dict (fun s C => KitAt.keeps hx.kit fun b o => C.keep) (by kernel_rfl)))) (by rfl)) ?_
  exact ex_ret (ev_get1 (knd := PySem.strKind prg w) (k := c) (kvs := xvs) (R := IsS c) (by walk_at "nm") (ev_nameP (by walk_at "mem") ⟨_, rfl⟩) (fun s C => hx.keeps fun b o => C.keep) (fun _ => strIs) (by walk_at "mc")) fun v s hv C => ⟨_, _, C, rfl, hv⟩
end
theorem o59_shape : ∃ nm q bs dd sn sub ab col k0 k1 k2 k3 k5, J13 = excClassObj nm q 59 58 bs [.ref 46, .type "Exception", .type "BaseException", .type "object"] true sn sub ab col dd k0 k1 k2 k3 k5 "Exception.__new__" :=
  ⟨"PaintFault", "PaintFault", _, _, _, _, _, _, _, _, _, _, _, rfl⟩
section
variable {w : World} {A : Around} {E : Value → Shared → Prop} {R : Result → Shared → Prop} {h : Heap} {g : Array GenState} {d : Drawn} {t : Nat} {os : OsState}
variable {nm q : Str} {C N : Addr} {bs bm : List Value} {hdct : Bool} {sn : List Str} {sub : List Value} {ab : Bool} {col : Option Bool} {dd : Option Addr} {k0 k1 k2 k3 k5 : Option Value} {Bn newId inN : String} {bmN : List Value}
theorem exc_new (Fn : ExcBaseFacts Bn newId inN bmN) (hcB : (Value.ref C :: bm).contains (.type Bn) = true) (hcA : (Value.ref C :: bm).contains (.type "AttributeError") = false) (hcN : (Value.ref C :: bm).contains (.type "NameError") = false) {rest : List Value} (hC : h.get? C = some (excClassObj nm q C N bs bm hdct sn sub ab col dd k0 k1 k2 k3 k5 newId))
    (hq : R (.ok (.ret (.ref (h.objs.size + 1)))) ⟨(h.push { cls := .type "tuple", data := .seq rest.toArray }).push
      { cls := .ref C, data := .fields #[.ref h.objs.size, .none, .none, .none, .bool false, .none] }, g, d, t, os⟩) (hrest : rest.length ≤ sizeLine := by size_fits) :
    codeAny (model prg w) A (.builtin newId ⟨.ref C :: rest, []⟩) R ⟨h, g, d, t, os⟩ := by
  have hends := Fn.ends
  refine codeAny_builtinAt Fn.entry ?_
  unfold Builtin.«BaseException.__new__»
  refine _root_.PySem.wpAt_bind ?_
  show _root_.PySem.wpAt _ _ _ (stack >>= _) _ _ _
  refine _root_.PySem.wpAt_bind (_root_.PySem.wpAt_stack fun p below => _root_.PySem.wpAt_of_wpAny ?_)
  wp_walk
  refine _root_.PySem.wpAt_of_wpAny ?_
  rw [Fn.owner]
  repeat (first | with_reducible refine wpAny_madeHere_exc Fn.canon hC ?_ | with_reducible refine wpAny_loadPart_at hC ?_ | (with_reducible refine wpAny_isSubtype_exc hC ?_; first | rw [hcB] | rw [hcA] | rw [hcN]) | wp_step)
  show R _ _
  rw [Heap.size_push]
  exact hq
theorem exc_call {rest : List Value} {fI : Addr} {Q : Value → Shared → Prop} (Fn : ExcBaseFacts Bn newId inN bmN) (hcB : bm.contains (.type Bn) = true) (hcA : (Value.ref C :: bm).contains (.type "AttributeError") = false) (hcN : (Value.ref C :: bm).contains (.type "NameError") = false)
    (hC : h.get? C = some (excClassObj nm q C N bs bm hdct sn sub ab col dd k0 k1 k2 k3 k5 newId)) (X : (KL w.params).In h) (hi : findIn (KL w.params) (.ref C) "__init__" = some (some (.ref fI))) (hf : typeIn (KL w.params) (.ref fI) = some (.type "function"))
    (hq : wpAny (model prg w) (A.under (.builtin "type.__call__" ⟨.ref C :: rest, []⟩)) (call (.ref fI) (.ref (h.objs.size + 1) :: rest)) (fun v s' => v = .none ∧ Q (.ref (h.objs.size + 1)) s') E
      ⟨(h.push { cls := .type "tuple", data := .seq rest.toArray }).push { cls := .ref C, data := .fields #[.ref h.objs.size, .none, .none, .none, .bool false, .none] }, g, d, t, os⟩) (hrest : rest.length ≤ sizeLine) :
    wpAny (model prg w) A (call (.ref C) rest) Q E ⟨h, g, d, t, os⟩ := by
  have f1 := tc_lookup
  have f2 := tc_bind (.ref C)
  have hT : (⟨h, g, d, t, os⟩ : Shared).TypeIs (.ref C) "type" := ⟨_, hC, rfl⟩
  refine wpAny_call (codeAny_of_tree ?_)
  show wpAny _ _ (callAny (.ref C) _) _ _ _
  repeat (any_goals (first | assumption | with_reducible refine wpAny_loadPart_at hC ?_ | wp_step))
  refine ⟨rfl, ?_⟩
  refine codeAny_call_builtin_at (Code.quiet_builtin _ (by decide +kernel)) entry_typeCall (wpAny_check_type_call_sub hC ?_)
  repeat (first | with_reducible refine wpAny_loadPart_at hC ?_ | with_reducible refine wpAny_madeBy_exc hC ?_ | wp_step)
  refine codeAny_call_builtin_code (Code.quiet_builtin _ Fn.quiet) (wpAny_check_new_subU Fn hcB .base hC ?_)
  refine exc_new Fn (by rw [List.contains_cons, hcB, Bool.or_true]) hcA hcN hC ?_ hrest
  show wpAny _ _ _ _ _ _
  have k : ∀ b o, h.get? b = some o → ((h.push { cls := .type "tuple", data := .seq rest.toArray }).push { cls := .ref C, data := .fields #[.ref h.objs.size, .none, .none, .none, .bool false, .none] }).get? b = some o := fun b o e => Heap.get?_push_of_some _ (Heap.get?_push_of_some _ e)
  have hC₁ := k _ _ hC
  have hget : ((h.push { cls := .type "tuple", data := .seq rest.toArray }).push
      { cls := .ref C, data := .fields #[.ref h.objs.size, .none, .none, .none, .bool false, .none] }).get? (h.objs.size + 1) = some
      { cls := .ref C, data := .fields #[.ref h.objs.size, .none, .none, .none, .bool false, .none] } := by heap_get
  have hcC : (Value.ref C :: bm).contains (.ref C) = true := by simp
  have X₁ := X.keeps k
  have i1 := looks_findIn (M := model prg w) X₁ hi
  have b1 := bind_fn (M := model prg w) X₁ (.ref (h.objs.size + 1)) hf
  unfold isInstance
  repeat (first | with_reducible refine wpAny_loadPart_at hget ?_ | (with_reducible refine wpAny_isSubtype_exc hC₁ ?_; rw [hcC]) | wp_step)
  show wpAny _ _ (isSubtype (.ref C) (.ref C)) _ _ _
  refine wpAny_isSubtype_exc hC₁ ?_
  rw [hcC]
  repeat (first | with_reducible refine wpAny_loadPart_at hget ?_ | wp_step)
  show wpAny _ _ (typeLookup (.ref C) _) _ _ _
  refine i1.here ?_
  refine wpAny_holding (wpAny_bind (b1.here ?_))
  refine wpAny_bind (wpAny_mono hq (fun v s' hv => ?_) fun _ _ x => x)
  obtain ⟨rfl, hv⟩ := hv
  exact wpAny_pure (wpAny_pure hv)
end
section
variable {w : World} {A : Around} {E : Value → Shared → Prop} {K : Frag} {C x : Addr} {s : Shared} {R : Result → Shared → Prop}
theorem passes_exc (self : Value) : refuseLoop self "__setattr__" [.ref 59, .ref 46, .type "Exception", .type "BaseException", .type "object"] = pure () := by
  rw [refuseLoop_ref, refuseLoop_ref]; exact PySem.F.store_Exception.passes self
theorem osa_pass {ox : Obj} {cd : ClassData} {name : Str} {tk : Tok} {v : Value} {r : Option Value} (X : K.In s.heap) (hx : s.heap.get? x = some ox) (hxc : ox.cls = .ref C) (hc : clsIn K C = some cd) (ne : cd.mro.isEmpty = false) (ho : cd.mro.contains (.type "object") = true)
    (hp : ∀ self, refuseLoop self "__setattr__" cd.mro = pure ()) (ht : takerIn K C name = some r)
    (h : ∀ b, wpAny (model prg w) A.in1 (match r with | some a => Builtin.ObjectAttr.setByDescriptor a (.ref x) v | none => Builtin.ObjectAttr.storeInOwnDict (.ref x) (.ref C) (.str name tk) name v b)
      (fun fin s' => match fin with | .done f => R (.ok f) s' | .again c' => c'.quiet = true ∧ codeAny (model prg w) A c' R s') (fun e s' => R (.error e) s') s) :
    codeAny (model prg w) A (.call (.builtin "object.__setattr__") ⟨[.ref x, .str name tk, v], []⟩) R s := by
  have SF := PySem.F.store_object
  have ty : Looks (model prg w) s.heap (typeOf (.ref x)) (.ref C) := hxc ▸ (Looks.ld hx).andThen .now
  have sub : Looks (model prg w) s.heap (isInstance (.ref x) (.type "object")) true := ty.andThen (looks_mroIn X (by unfold mroIn; rw [hc, Option.bind_some, if_neg (by rw [ne]; decide), ho]))
  refine codeAny_call_builtin SF.slot.plain SF.entry (@check_slot (model prg w) _ _ s "object.__setattr__" "object" "__setattr__" (.ref x) [.str name tk, v] [] _ SF.kind SF.split sub (SF.args (.ref x) (.str name tk) v) ?_)
  obtain ⟨attr, ha, hr⟩ := Option.bind_eq_some_iff.mp ht
  have hm : Looks (model prg w) s.heap (mroOf (.ref C)) cd.mro := (looks_clsIn X hc).andThen .now
  have L3 : Looks (model prg w) s.heap (Builtin.ObjectAttr.storeTaker? attr) r := by
    cases attr with
    | none => cases hr; exact .now
    | some a =>
      obtain ⟨b, hb, rfl⟩ := Option.map_eq_some_iff.mp hr
      refine (looks_takesIn X hb).andThen ?_
      cases b <;> exact .now
  rw [osa_eq, refuse_eq]
  refine wpAny_bind (wpAny_bind (ty.here (wpAny_bind (hm.here ?_))))
  rw [hp]
  refine wpAny_pure (wpAny_bind (ty.here (wpAny_bind ((looks_findIn X ha).here (wpAny_bind (L3.here ?_))))))
  exact h _
theorem exc_set {cd : ClassData} {name : Str} {v : Value} {Q : Unit → Shared → Prop} {mA : Str → Option Value} {ns : List Str} (X : K.In s.heap) (I : s.heap.Inst x C mA) (hc : clsIn K C = some cd) (hcd : cd.hasDict = true) (ne : cd.mro.isEmpty = false) (hob : cd.mro.contains (.type "object") = true)
    (hp : ∀ self, refuseLoop self "__setattr__" cd.mro = pure ()) (ht : takerIn K C name = some none) (hs : findIn K (.ref C) "__setattr__" = some (some (.builtin "object.__setattr__")))
    (hq : ∀ h' tk', h'.Inst x C (fun y => if y = name then some v else mA y) →
      (∀ b o, b ≠ x → (∀ o₀ dx, s.heap.get? x = some o₀ → o₀.dict = some dx → b ≠ dx) → s.heap.get? b = some o → h'.get? b = some o) →
      (∀ o₀, s.heap.get? x = some o₀ → ∃ o₁, h'.get? x = some o₁ ∧ o₁.cls = o₀.cls ∧ o₁.data = o₀.data ∧ o₁.slots = o₀.slots ∧ ∃ dx, o₁.dict = some dx ∧ (o₀.dict = some dx ∨ (o₀.dict = none ∧ s.heap.objs.size ≤ dx))) → Q () { s with heap := h', toks := tk' }) (hw : Within mA ns := by within_ways) (hsz : ns.length ≤ 1000 := by decide) :
    wpAny (model prg w) A (setAttr (.ref x) name v) Q E s := by
  walk_at "h"
  obtain ⟨o, hx, hxc, hnc, hd⟩ := I
  walk_at "u"
  have ty : Looks (model prg w) s.heap (typeOf (.ref x)) (.ref C) := hxc ▸ (Looks.ld hx).andThen .now
  refine wpAny_bind (wpAny_mkText (wpAny_bind (wpAny_bind (wpAny_bind (ty _ _ _ _ (fun _ _ e => e) (looks_findIn X hs _ _ _ _ (fun _ _ e => e) (wpAny_holding ?_)))))))
  rw [PySem.F.store_object.slot.bind]
  refine wpAny_bind (wpAny_pure (wpAny_bind (wpAny_call (osa_pass (s := { s with toks := s.toks + 1 }) X hx hxc hc ne hob hp ht fun b => ?_))))
  walk_at "h"
  obtain ⟨h, g, dr, t, os⟩ := s
  walk_at "u"
  walk_at "h"
  obtain ⟨oc, od, odt, osl⟩ := o
  walk_at "u"
  dsimp only at hxc hnc hd hx
  subst hxc
  show wpAny _ _ (Builtin.ObjectAttr.storeInOwnDict _ _ _ _ _ _) _ _ _
  have X' : K.In h := X
  have kd : Looks (model prg w) h (classData C) cd := looks_clsIn X' hc
  refine wpAny_bind (wpAny_pure (wpAny_bind (wpAny_bind (wpAny_loadPart hx (wpAny_bind (kd.here (s := ⟨h, g, dr, t + 1, os⟩) ?_))))))
  rw [hcd, if_neg (by decide)]
  rcases hd with ⟨hdn, hmA⟩ | ⟨dx, hdx, hne, hns⟩
  · subst hdn
    have hx₁ : (h.push { cls := .type "dict", data := .dict #[] }).get? x = some _ := Heap.get?_push_of_some _ hx
    have hxs : x ≠ h.objs.size := Nat.ne_of_lt (Heap.lt_size hx)
    show wpAny _ _ (if (!true || !typeHasDict (.ref C)) = true then _ else _) _ _ _
    rw [if_neg (by simp [typeHasDict])]
    dsimp only
    split
    · exact absurd rfl (hnc _)
    · refine wpAny_bind (wpAny_alloc' ?_)
      refine wpAny_bind (wpAny_update' hx₁ ?_)
      refine wpAny_pure ?_
      have hgd : ((h.push { cls := .type "dict", data := .dict #[] }).update x fun o => { cls := o.cls, dict := some h.objs.size, data := o.data, slots := o.slots }).get? h.objs.size
          = some { cls := .type "dict", data := .dict #[] } :=
        (Heap.get?_update_ne _ _ _ _ hxs.symm).trans (Heap.get?_push_at rfl rfl)
      have hnd : ((h.push { cls := .type "dict", data := .dict #[] }).update x fun o => { cls := o.cls, dict := some h.objs.size, data := o.data, slots := o.slots }).Ns h.objs.size (fun _ => none) :=
        ⟨_, #[], _, hgd, rfl, fun e he => absurd he (by simp), fun _ => rfl⟩
      show wpAny _ _ (Builtin.ObjectAttr.storeInDict h.objs.size (.str name t) name v) _ _ _
      unfold Builtin.ObjectAttr.storeInDict Builtin.ObjectAttr.newKeyGuard
      refine wpAny_bind (wpAny_pure (wpAny_bind (wpAny_nsSet1 (Heap.Ns1.of_empty hnd) fun h' hn' hs => ?_)))
      walk_at "h"
      obtain ⟨oD, esD, epD, hoD, hdD, hcD⟩ := hn'.count (Within.cons name v Within.nil)
      walk_at "u"
      refine wpAny_bind (wpAny_lookBehind hoD (by rw [hdD]; exact pastItsLine_dict (Nat.le_trans hcD (by rw [List.length_cons, List.length_nil, sizeLine_eq]; omega))) ?_)
      refine wpAny_pure (wpAny_pure (wpAny_pure ?_))
      have hx' : h'.get? x = some { cls := .ref C, dict := some h.objs.size, data := odt, slots := osl } := by
        refine (hs.2 x hxs).trans (Heap.get?_update_self _ hx₁ ?_)
        have hfr := (Heap.get?_some_iff.mp hx).2
        cases odt <;> first | rfl | exact hfr
      refine hq h' _ ⟨_, hx', rfl, hnc, .inr ⟨h.objs.size, rfl, hxs.symm, ?_⟩⟩ (fun b ob hbx _ hb => ?_)
        (fun o₀ h₀ => by rw [hx] at h₀; cases h₀; exact ⟨_, hx', rfl, rfl, rfl, _, rfl, .inr ⟨rfl, Nat.le_refl _⟩⟩)
      · walk_at "h"
        obtain ⟨o', es, ep, e1, e2, e3, eu, e4⟩ := hn'
        walk_at "u"
        exact ⟨o', es, ep, e1, e2, e3, eu, fun y => by rw [e4 y]; by_cases hy : y = name <;> simp [hy, hmA]⟩
      · exact (hs.2 b (Nat.ne_of_lt (Heap.lt_size hb))).trans ((Heap.get?_update_ne _ _ _ _ hbx).trans (Heap.get?_push_of_some _ hb))
  · subst hdx
    refine wpAny_pure (a := some dx) ?_
    show wpAny _ _ (Builtin.ObjectAttr.storeInDict dx (.str name t) name v) _ _ _
    unfold Builtin.ObjectAttr.storeInDict Builtin.ObjectAttr.newKeyGuard
    refine wpAny_bind (wpAny_pure (wpAny_bind (wpAny_nsSet1 hns fun h' hn' hs => ?_)))
    walk_at "h"
    obtain ⟨oD, esD, epD, hoD, hdD, hcD⟩ := hn'.count (Within.cons name v hw)
    walk_at "u"
    refine wpAny_bind (wpAny_lookBehind hoD (by rw [hdD]; exact pastItsLine_dict (Nat.le_trans hcD (by rw [List.length_cons, sizeLine_eq]; omega))) ?_)
    refine wpAny_pure (wpAny_pure (wpAny_pure ?_))
    refine hq h' _ ⟨_, (hs.2 x hne.symm).trans hx, rfl, hnc, .inr ⟨dx, rfl, hne, hn'⟩⟩ (fun b ob _ hbd hb => ?_)
      (fun o₀ h₀ => by
        rw [hx] at h₀; cases h₀
        exact ⟨_, (hs.2 x hne.symm).trans hx, rfl, rfl, rfl, dx, rfl, .inl rfl⟩)
    exact (hs.2 b (hbd _ dx hx rfl)).trans hb
end
section
variable {w : World} {A : Around} {E : Value → Shared → Prop} {s : Shared}
noncomputable abbrev excObj (C a : Addr) (d : Option Addr) : Obj := { cls := .ref C, dict := d, data := .fields #[.ref a, .none, .none, .none, .bool false, .none] }
theorem k59 (P : Params) : (KL P).lookup 59 = some J13 := by kernel_rfl
theorem base_init {e a : Addr} {v : Value} {Q : Value → Shared → Prop} (X : (KL w.params).In s.heap) (he : s.heap.get? e = some (excObj 59 a none)) (hm : mroIn (KL w.params) 59 (.type "Exception") = some true)
    (h : ∀ h' a', h'.get? e = some (excObj 59 a' none) → (∀ b o, b ≠ e → s.heap.get? b = some o → h'.get? b = some o) → s.heap.objs.size ≤ h'.objs.size → Q .none { s with heap := h' }) :
    wpAny (model prg w) A (call (.builtin "Exception.__init__") [.ref e, v]) Q E s := by
  have F := PySem.F.excBase_Exception
  walk_at "h"
  obtain ⟨hp, g, dr, t, os⟩ := s
  walk_at "u"
  have sub : Looks (model prg w) hp (isInstance (.ref e) (.type "Exception")) true := ((Looks.ld he).andThen .now).andThen (looks_mroIn X hm)
  have hshort := F.noStar
  have hC : hp.get? 59 = some J13 := X _ _ (k59 _)
  walk_at "h"
  obtain ⟨nm, q, bs, dd, sn, sb, ab, col, k0, k1, k2, k3, k5, e59⟩ := o59_shape
  walk_at "u"
  rw [e59] at hC
  refine wpAny_call (codeAny_call_builtin F.init.plain F.initEntry ?_)
  simp only [checkBuiltinCall, F.initKind, F.initSplit, F.initRow]
  refine wpAny_bind (sub.here (s := ⟨hp, g, dr, t, os⟩) ?_)
  repeat (first | with_reducible refine wpAny_loadPart_at he ?_ | with_reducible refine wpAny_loadPart_at hC ?_ | wp_step)
  have he' := Heap.get?_push_of_some { cls := .type "tuple", data := .seq #[v] } he
  refine h _ hp.objs.size (Heap.get?_update_self _ he' rfl) (fun b o hbe hb => ?_) ?_
  · rw [Heap.get?_update_other _ _ (Ne.symm hbe)]; exact Heap.get?_push_of_some _ hb
  · rw [Heap.size_update, Heap.size_push]; exact Nat.le_succ _
end
section
variable {Γ : G} {l l' : List (Str × Value)} {news news' fz : List (Addr × Obj)} {s : Shared} {rest : List Stmt} {Q : Flow → Shared → Prop} {E : Value → Shared → Prop}
theorem ct_defD {w : World} {F : FI} {vs : List Value} {binds : List (Str × Value)} {facts : Heap → Prop} {news : List (Addr × Obj)} {P : Value → List (Addr × Obj) → Prop} {may : Prop} {k : Nat} {T : Addr} {o : Obj} {items : Array Value} {n : Nat} {kb : Option (Array Value) → Sem (List (Str × Value))} (G : F.Good)
    (hd : F.fdt.defaults = .ref T) (ho : (KL w.params).lookup T = some o) (hs : o.data = .seq items n) (h₁ : bindArgs F.fdt ⟨vs, []⟩ = seqItems? F.fdt.defaults >>= kb) (h₂ : kb (some items) = pure binds)
    (hloc : (binds.all fun x => decide ((fS F.p).names.lookup x.1 = some .local)) = true) (hdup : decide (binds.map (·.1)).Nodup = true)
    (body : ∀ A s₀ g L outer base, facts g → Room A k → Ex ⟨w, A, s₀, g, L, outer, base, F.env L⟩ binds news (fB F.p) (Ends ⟨w, A, s₀, g, L, outer, base, F.env L⟩ P) (fun e s => may ∧ Flies ⟨w, A, s₀, g, L, outer, base, F.env L⟩ e s)) :
    Ct w F.f vs facts news P may (k + 1) := fun A outer base g s Q E Pr room hf hQ hE => by
  refine wpAny_call (enter (binds := binds) Pr (by have := room.1; omega) (by have := room.2; omega) (G.k _) (G.c _) (binds_K (kl_in (fun b o e => Pr.keep b o (Pr.st b o e))) hd ho hs h₁ h₂) hloc G.nc G.co G.ge G.kd (of_decide_eq_true hdup) fun L s₁ C₁ => ?_)
  refine wpAny_mono (body (A.deeper (F.env L)) s g L outer base hf ⟨?_, ?_⟩ s₁ C₁) (fun fl s' h => ?_) (fun e s' h => ?_)
  · have := room.1; show A.depth + 1 + 2 * k < 590; omega
  · have := room.2; show A.units + 3 + 20 * k < 8990; omega
  · walk_at "h"
    obtain ⟨l', n, C', hP⟩ := h
    walk_at "u"
    exact hQ _ n s' hP C'.back_of
  · exact h.2.leave C₁.ok fun s'' T => hE h.1 _ s'' T
theorem Cx.redo (C : Cx Γ l news s) {h' : Heap} {n : Nat} (keep : ∀ b o, b ∉ news.map (·.1) → s.heap.get? b = some o → h'.get? b = some o) (new : ∀ p ∈ news', h'.get? p.1 = some p.2 ∧ (p.1 ∈ news.map (·.1) ∨ s.heap.get? p.1 = none)) (nd : (news'.map (·.1)).Nodup) :
    Cx Γ l news' { s with heap := h', toks := n } := by
  obtain ⟨m, F, k⟩ := C.fr
  walk_at "h"
  obtain ⟨oL, es, ep, hL, r⟩ := F.ns
  walk_at "u"
  have out : ∀ b o, Γ.g.get? b = some o → b ∉ news.map (·.1) := fun b o e q => by
    obtain ⟨p, hp, rfl⟩ := List.mem_map.mp q
    rw [(C.nw p hp).2.2] at e; cases e
  refine ⟨C.ok, ⟨m, ⟨⟨oL, es, ep, keep _ _ (fun q => ?_) hL, r⟩, fun b o e => keep b o (out b o e) (F.keep b o e), F.above⟩, k⟩, fun p hp => ⟨(new p hp).1, fun q => ?_, ?_⟩, nd, C.gens, C.drawn, C.os⟩
  · obtain ⟨p, hp, e⟩ := List.mem_map.mp q
    exact (C.nw p hp).2.1 e
  · rcases (new p hp).2 with h | h
    · obtain ⟨p', hp', e⟩ := List.mem_map.mp h
      exact (C.nw p' hp').2.1 (e.trans q)
    · rw [q, hL] at h; cases h
  · rcases (new p hp).2 with h | h
    · obtain ⟨p', hp', e⟩ := List.mem_map.mp h
      rw [← e]; exact (C.nw p' hp').2.2
    · cases q : Γ.g.get? p.1 with
      | none => rfl
      | some o => rw [F.keep _ _ q] at h; cases h
theorem d29 (P : Params) : (KL P).lookup 29 = some J0W := by kernel_rfl
def ExcEnd (e : Addr) (n : List (Addr × Obj)) : Prop := ∃ o r, n = (e, o) :: r ∧ o.cls = .ref 59 ∧ ∃ vs, o.data = .fields vs ∧ vs[1]? = some .none
theorem c59 (P : Params) : clsIn (KL P) 59 = some (cd "PaintFault" [(R 46)] [(R 59), (R 46), (Y "Exception"), (Y "BaseException"), (Y "object")] 58 "PaintFault" true [] [] false none false) := by kernel_rfl
theorem t59w (P : Params) : takerIn (KL P) 59 "what" = some none := by kernel_rfl
theorem t59a (P : Params) : takerIn (KL P) 59 "at" = some none := by kernel_rfl
theorem s59 (P : Params) : findIn (KL P) (.ref 59) "__setattr__" = some (some (.builtin "object.__setattr__")) := by kernel_rfl
theorem m59 (P : Params) : mroIn (KL P) 59 (.type "Exception") = some true := by kernel_rfl
theorem find_ei (P : Params) : findCls (KL P) (.type "Exception") (.type "type") "__init__" = some (.val (.builtin "Exception.__init__")) := by kernel_rfl
theorem st_exc {e a : Addr} {d : Option Addr} {v : Value} {name : Str} {mA : Str → Option Value} {ns : List Str} {Q : Unit → Shared → Prop} {E : Value → Shared → Prop} {r : List (Addr × Obj)} (C : Cx Γ l ((e, excObj 59 a d) :: r) s) (I : s.heap.Inst e 59 mA) (hr : ∀ p ∈ r, d = some p.1) (hrn : d = none ∨ ∃ p, r = [p]) (ht : takerIn (KL Γ.w.params) 59 name = some none) (hw : Within mA ns) (hsz : ns.length ≤ 1000)
    (k : ∀ s' dx od, Cx Γ l [(e, excObj 59 a (some dx)), (dx, od)] s' → s'.heap.Inst e 59 (fun y => if y = name then some v else mA y) → Q () s') : wpAny (model prg Γ.w) Γ.A (setAttr (.ref e) name v) Q E s := by
  have he := C.obj (.head _)
  refine exc_set (ns := ns) C.k I (c59 _) rfl rfl (by rfl) passes_exc ht (s59 _) (fun h' tk' I' hk ho => ?_) hw hsz
  walk_at "h"
  obtain ⟨o₁, h1, h2, h3, h4, dx, h5, h6⟩ := ho _ he
  walk_at "u"
  walk_at "h"
  obtain ⟨oc, odc, oda, osl⟩ := o₁
  walk_at "u"
  dsimp only at h2 h3 h4 h5
  subst h2 h3 h4 h5
  walk_at "h"
  obtain ⟨o', ho', _, _, hd⟩ := id I'
  walk_at "u"
  rw [h1] at ho'
  cases ho'
  obtain ⟨od, hod⟩ : ∃ od, h'.get? dx = some od := by
    rcases hd with ⟨hd, _⟩ | ⟨d', hd, _, hns⟩
    · cases hd
    · cases hd
      walk_at "h"
      obtain ⟨od, _, _, hod, _⟩ := hns
      walk_at "u"
      exact ⟨od, hod⟩
  have hne : e ≠ dx := by
    rcases hd with ⟨hd, _⟩ | ⟨d', hd, hn, _⟩
    · cases hd
    · cases hd; exact hn.symm
  refine k { s with heap := h', toks := tk' } dx od (C.redo (fun b o hb hbo => hk b o (fun q => hb (by rw [q]; exact .head _)) (fun o₀ dx' h₀ hdx => ?_) hbo) (fun p hp => ?_) (by simpa using hne)) I'
  · rw [he] at h₀; cases h₀
    dsimp only at hdx
    intro q
    rcases hrn with hd0 | ⟨p, hp⟩
    · rw [hd0] at hdx; cases hdx
    · have := hr p (by rw [hp]; exact .head _)
      rw [hdx] at this; cases this
      exact hb (by rw [q, hp]; exact .tail _ (.head _))
  · rcases List.mem_cons.mp hp with rfl | hp
    · exact ⟨h1, .inl (.head _)⟩
    · rw [List.mem_singleton.mp hp]
      refine ⟨hod, ?_⟩
      rcases h6 with h6 | ⟨_, h6⟩
      · dsimp only at h6
        rcases hrn with hd0 | ⟨p, hp'⟩
        · rw [hd0] at h6; cases h6
        · have := hr p (by rw [hp']; exact .head _)
          rw [h6] at this; cases this
          exact .inl (by rw [hp']; exact .tail _ (.head _))
      · right
        cases q : s.heap.get? dx with
        | none => rfl
        | some o => exact absurd (Heap.lt_size q) (Nat.not_lt.mpr h6)
theorem exc_init {w : World} {e a : Addr} {v : Value} : Ct w F_PaperError_init.f [.ref e, v] (fun _ => True) [(e, excObj 59 a none)] (fun v n => v = .none ∧ ExcEnd e n) False 1 := by
  refine ct_defD (F := F_PaperError_init) (binds := [(Str.ofString "self", .ref e), (Str.ofString "what", v), (Str.ofString "at", I (-1) 209)]) (k := 0) (T := 29) G_PaperError_init rfl (d29 _) rfl rfl (by rfl) (by kernel_rfl) (by kernel_rfl) fun A s₀ g L outer base hf rm => ?_
  conv => { arg 4; whnf }
  refine exx_expr (P := fun n => ∃ a', n = [(e, excObj 59 a' none)]) (may := False) (fun s Q E C k hE => ?_) (fun h => h.elim) (fun n hn => ?_)
  · refine MethodCall_ ((ev_bltn (b_Exception _) (b_Exception' _)) s _ E C fun v s₁ hv C₁ => ?_)
    subst hv
    obtain ⟨m, F, hm⟩ := C₁.fr
    refine method_type F C₁.k0 (by kernel_rfl) (by kernel_rfl) (find_ei _) (by kernel_rfl) ?_
    have hA : ∀ pos p1 p2, Evs ⟨w, A, s₀, g, L, outer, base, F_PaperError_init.env L⟩ [(Str.ofString "self", .ref e), (Str.ofString "what", v), (Str.ofString "at", I (-1) 209)] [(e, excObj 59 a none)] pos [.Name "self" p1, .Name "what" p2] (fun vs => ∃ x, x = .ref e ∧ ∃ u, (∃ y, y = v ∧ ∃ u', u' = [] ∧ u = y :: u') ∧ vs = x :: u) := fun pos p1 p2 => evs_cons (by walk_at "nm") (evs_cons (by walk_at "nm") evs_nil)
    refine callWith_method1 (first := []) (hA _ _ _ _ _ E (C₁.tok _) fun vs s₂ hv C₂ => ?_)
    walk_at "h"
    obtain ⟨x, rfl, u, ⟨y, rfl, u', rfl, rfl⟩, rfl⟩ := hv
    walk_at "u"
    refine base_init C₂.k (C₂.obj (.head _)) (m59 _) fun h' a' he' hk hsz => k _ [(e, excObj 59 a' none)] _ ⟨rfl, a', rfl⟩ (C₂.redo (fun b o hb hbo => hk b o (fun q => hb (by rw [q]; exact .head _)) hbo) (fun p hp => ?_) (by simp))
    rw [List.mem_singleton.mp hp]
    exact ⟨he', .inl (.head _)⟩
  · obtain ⟨a', rfl⟩ := hn
    intro s C
    refine wpAny_execs_cons (plainObj_wpAny_Assign_Attribute ((by walk_at "nm" : Ev _ _ _ _ (· = v)) s _ _ C fun v' s₁ hv C₁ => (by walk_at "nm" : Ev _ _ _ _ (· = .ref e)) s₁ _ _ C₁ fun o s₂ ho C₂ => ?_))
    subst hv ho
    have I0 : s₂.heap.Inst e 59 (fun _ => none) := ⟨_, C₂.obj (.head _), rfl, (fun c q => (nomatch q)), .inl ⟨rfl, fun _ => rfl⟩⟩
    refine st_exc C₂ I0 (fun p hp => nomatch hp) (.inl rfl) (t59w _) Within.nil (by decide) fun s₃ dx od C₃ I₃ => ?_
    refine wpAny_execs_cons (plainObj_wpAny_Assign_Attribute ((by walk_at "nm" : Ev _ _ _ _ (· = I (-1) 209)) s₃ _ _ C₃ fun v' s₄ hv C₄ => (by walk_at "nm" : Ev _ _ _ _ (· = .ref e)) s₄ _ _ C₄ fun o s₅ ho C₅ => ?_))
    subst hv ho
    have I5 : s₅.heap.Inst e 59 (fun y => if y = Str.ofString "what" then some v' else none) := by
      walk_at "h"
      obtain ⟨o, h1, h2, h3, h4⟩ := I₃
      walk_at "u"
      rw [C₃.obj (.head _)] at h1
      cases h1
      rcases h4 with ⟨h4, _⟩ | ⟨d, h4, h5, o', es, ep, h6, h7⟩
      · cases h4
      · cases h4
        rw [C₃.obj (.tail _ (.head _))] at h6
        cases h6
        exact ⟨_, C₅.obj (.head _), rfl, h3, .inr ⟨_, rfl, h5, _, es, ep, C₅.obj (.tail _ (.head _)), h7⟩⟩
    refine st_exc C₅ I5 (fun p hp => by rw [List.mem_singleton.mp hp]) (.inr ⟨_, rfl⟩) (t59a _) (Within.cons _ _ Within.nil) (by decide) fun s₆ dx' od' C₆ I₆ => ?_
    exact wpAny_execs_nil ⟨_, _, C₆, rfl, _, _, rfl, rfl, _, rfl, rfl⟩
end
section
variable {Γ : G} {l l' : List (Str × Value)} {news news' fz : List (Addr × Obj)} {s : Shared} {rest : List Stmt} {Q : Flow → Shared → Prop} {E : Value → Shared → Prop}
theorem Cx.flyNew (C : Cx Γ l news s) {e : Addr} {o : Obj} (hm : (e, o) ∈ news) (hc : o.cls = .ref 59) {vs : Array Value} (hd : o.data = .fields vs) (h1 : vs[1]? = some .none) : Flies Γ (.ref e) s := by
  have P := C.pre
  refine ⟨⟨e, rfl, ?_, .inl ⟨o, vs, C.obj hm, hc, hd, h1⟩⟩, fun b o q => C.keep (C.ok.bs b o q), P.bf.of_keeps fun b o q _ => ⟨o, P.keep b o q, rfl⟩, fun b o hb _ => ⟨o.slots, C.keep hb⟩, C.gens, C.drawn, C.os⟩
  have := (C.nw _ hm).2.2
  cases q : Γ.base.get? e with
  | none => rfl
  | some o => rw [C.ok.bs _ _ q] at this; cases this
theorem i59 (P : Params) : findIn (KL P) (.ref 59) "__init__" = some (some (.ref F_PaperError_init.f)) := by kernel_rfl
theorem f36 (P : Params) : typeIn (KL P) (.ref F_PaperError_init.f) = some (.type "function") := by kernel_rfl
theorem keep59 (P : Params) : keepIn (KL P) (.ref 59) = true := by kernel_rfl
theorem mk_fault {v : Value} {Q : Value → Shared → Prop} (C : Cx Γ l news s) (rm : Room Γ.A 2) (k : ∀ e o s', Cx Γ l ((e, o) :: news) s' → o.cls = .ref 59 → (∃ vs, o.data = .fields vs ∧ vs[1]? = some .none) → Q (.ref e) s') :
    wpAny (model prg Γ.w) Γ.A (call (.ref 59) [v]) Q E s := by
  walk_at "h"
  obtain ⟨hp, g, dr, t, os⟩ := s
  walk_at "u"
  have hC : hp.get? 59 = some J13 := C.k _ _ (k59 _)
  walk_at "h"
  obtain ⟨nm, q, bs, dd, sn, sb, ab, col, k0, k1, k2, k3, k5, e59⟩ := o59_shape
  walk_at "u"
  rw [e59] at hC
  refine exc_call PySem.F.excBase_Exception (by decide) (by decide) (by decide) hC C.k (i59 _) (f36 _) ?_ (by rw [sizeLine_eq]; simp)
  have C1 := (C.alloc { cls := .type "tuple", data := .seq #[v] } rfl).alloc (excObj 59 hp.objs.size none) rfl
  rw [Heap.size_push] at C1
  have C2 : Cx Γ l ([(hp.objs.size + 1, excObj 59 hp.objs.size none)] ++ news) _ := C1.drop (.cons₂ _ (List.sublist_cons_self _ _))
  have P := C2.preF
  refine exc_init (v := v) _ _ _ _ _ _ _ ⟨C.ok.hA, C.ok.hh, P.bs, P.bf, P.st, P.keep, P.size, P.mu, P.nd⟩ ⟨?_, ?_⟩ trivial (fun u n s' hP B => ?_) (fun h => h.elim)
  · have := rm.1
    show Γ.A.depth + 1 + 2 * 1 < 590; omega
  · have := rm.2
    show Γ.A.units + 1 + 20 * 1 < 8990; omega
  · walk_at "h"
    obtain ⟨rfl, o, r, rfl, h1, h2⟩ := hP
    walk_at "u"
    have C3 := C2.afterF B
    exact ⟨rfl, k _ o s' (C3.drop (by simp)) h1 h2⟩
theorem ex_raise {may : Prop} {e : Expr} {np cpos pos : Pos} {P : Value → Prop} (hm : may) (rm : Room Γ.A 2) (he : Ev Γ l news e P) (hx : Γ.env.kindOf "PaintFault" = some .globalImplicit)
    (hst : starEach (e :: []) Γ.env = (false, eval e Γ.env) :: starEach [] Γ.env := by rfl)
    (hc' : eval (.Call (.Name "PaintFault" np) [e] [] cpos) Γ.env = (do callWith cpos (← eval (.Name "PaintFault" np) Γ.env) [] (backTo cpos (starEach [e] Γ.env)) (backToKw cpos (keywordEach [] Γ.env))) := by rfl) :
    Ex Γ l news (.Raise (some (.Call (.Name "PaintFault" np) [e] [] cpos)) none pos :: rest) Q (fun e s' => may ∧ Flies Γ e s') := fun s C => by
  refine wpAny_execs_cons ?_
  show wpAny _ _ (do standAt pos; raiseStmt Γ.env (some (do let v ← eval (.Call (.Name "PaintFault" np) [e] [] cpos) Γ.env; standAt pos; pure v)) none) _ _ s
  refine wpAny_bind (wpAny_standAt ?_)
  unfold raiseStmt
  refine wpAny_bind (wpAny_bind (Call_ ((ev_glob (g_PaintFault _) hx (by kernel_rfl)) s _ _ C fun v s₁ hv C₁ => ?_) hc'))
  subst hv
  refine callWith_K C₁.k0 (keep59 _) (spliced_more (he s₁ _ _ C₁ fun x s₂ hx C₂ => spliced_none ⟨C₂.k, ?_⟩) hst) hst (by rfl)
  refine mk_fault C₂ rm fun a o s₃ C₃ h1 h2 => ?_
  obtain ⟨vs, h2, h3⟩ := h2
  have hF := C₃.flyNew (.head _) h1 h2 h3
  refine wpAny_bind (wpAny_standAt (wpAny_pure ?_))
  have ha := C₃.obj (.head _)
  have hC : s₃.heap.get? 59 = some J13 := C₃.k _ _ (k59 _)
  walk_at "h"
  obtain ⟨nm, q, bs, dd, sn, sb, ab, col, k0, k1, k2, k3, k5, e59⟩ := o59_shape
  walk_at "u"
  rw [e59] at hC
  have hh := C.ok.hh
  walk_at "h"
  obtain ⟨hp, g, d, tk, os⟩ := s₃
  walk_at "u"
  walk_at "h"
  obtain ⟨oc, od, odt, osl⟩ := o
  walk_at "u"
  dsimp only at h1 h2
  subst h1 h2
  have hcB : (Value.ref 59 :: [Value.ref 46, .type "Exception", .type "BaseException", .type "object"]).contains (.type "BaseException") = true := by decide
  repeat (first | with_reducible refine wpAny_loadPart_at ha ?_ | with_reducible refine wpAny_loadPart_at hC ?_ | (with_reducible refine wpAny_isSubtype_exc hC ?_; rw [hcB]) | wp_step)
  rw [h3]
  refine wpAny_pure ?_
  rw [if_neg (by decide)]
  refine wpAny_pure ?_
  refine wpAny_raiseNew_none hh ?_
  exact And.intro hm hF
end
structure FormD where
  gen : Int
  own : Option (Str → Option Nat)
  wishes : List Str
abbrev WorldD := Nat → Option FormD
noncomputable def walks (f : Option Str → Option (List Str)) : List (Option Str) → Option (List Str)
  | [] => some []
  | c :: r => match f c with
    | none => none
    | some a => match walks f r with
      | none => none
      | some b => some (a ++ b)
noncomputable def paints (f : Str → Option (List Str)) : Option Str → Option (List Str)
  | none => some [""]
  | some c => f c
noncomputable def rowsOf (ends : Bool) (ws : List Str) : List (Option Str) := (if ends then [none] else []) ++ ws.map some ++ (if ends then [none] else [])
noncomputable def walk (W : WorldD) : Nat → Str → (Str → Option Nat) → List Nat → Option (List Str)
  | 0, c, nm, ab => match nm c with
    | some 0 => some [c]
    | _ => none
  | n + 1, c, nm, ab => match nm c with
    | none => none
    | some 0 => some [c]
    | some (k + 1) => if k + 1 ∈ ab then none else match W (k + 1) with
      | none => none
      | some F => walks (paints fun c => walk W n c (F.own.getD nm) (ab ++ [k + 1])) (rowsOf true F.wishes)
noncomputable def cost (n : Nat) : Nat := 3 ^ (n + 1) - 1
theorem walks_cons {f : Option Str → Option (List Str)} {c : Option Str} {r : List (Option Str)} : walks f (c :: r) = match f c with | none => none | some a => match walks f r with | none => none | some b => some (a ++ b) := rfl
theorem walks_app {f : Option Str → Option (List Str)} {r : List (Option Str)} : ∀ {l : List (Option Str)}, walks f (l ++ r) = match walks f l with | none => none | some a => match walks f r with | none => none | some b => some (a ++ b)
  | [] => by
    show walks f r = match some [] with | none => none | some a => match walks f r with | none => none | some b => some (a ++ b)
    cases walks f r <;> rfl
  | c :: l => by
    rw [List.cons_append, walks_cons, walks_cons, walks_app]
    cases f c with
    | none => rfl
    | some a =>
      cases walks f l with
      | none => rfl
      | some b =>
        cases walks f r with
        | none => rfl
        | some d => simp
def XD (w : World) (g : Heap) (W : WorldD) (x : Addr) (nm : Str → Option Nat) : Prop :=
  ∃ kvs, SD w (PySem.strKind prg w) g x kvs ∧ ∀ c, match nm c with
    | none => valueAt kvs c = none
    | some 0 => ∃ v hd hk nf t, valueAt kvs c = some (.ref v) ∧ At g v 247 "head" (.ref hd) ∧ SD w (PySem.strKind prg w) g hd hk ∧ valueAt hk "Subtype" = some (.ref nf) ∧ At g nf 204 "text" (.str "Image" t)
    | some (k + 1) => ∃ r t t' F, valueAt kvs c = some (.ref r) ∧ At g r 275 "number" (.int ((k + 1 : Nat) : Int) t) ∧ At g r 275 "generation" (.int F.gen t') ∧ NoAt g r 275 "pair" ∧ W (k + 1) = some F
def Res (w : World) (g : Heap) (W : WorldD) (ra : Addr) (nm : Str → Option Nat) : Prop :=
  ∃ kvs x, SD w (PySem.strKind prg w) g ra kvs ∧ valueAt kvs "XObject" = some (.ref x) ∧ XD w g W x nm
def OpAt (g : Heap) (o : Addr) : Option Str → Prop
  | none => ∃ t v, At g o 908 "word" (.str "BI" t) ∧ At g o 908 "operands" (.ref v)
  | some c => ∃ t l n t', At g o 908 "word" (.str "Do" t) ∧ At g o 908 "operands" (.ref l) ∧ g.IsList l #[.ref n] ∧ At g n 204 "text" (.str c t')
def RowsAt (g : Heap) (r : Addr) (ops : List (Option Str)) : Prop :=
  ∃ vs : List Value, g.IsList r vs.toArray ∧ vs.length = ops.length ∧ ∀ (i : Nat) v c, vs[i]? = some v → ops[i]? = some c → ∃ o, v = .ref o ∧ OpAt g o c
def FormAt (w : World) (g : Heap) (W : WorldD) (tb : Addr) (hl : Nat → Addr) (k : Nat) (F : FormD) : Prop :=
  ∃ tkvs tp st t hd hk nf t' t2, SD w (PySem.intKind prg w) g tb tkvs ∧ valueAt tkvs (k : Int) = some (.ref tp) ∧ IsTup g tp #[.int F.gen t, .ref st] ∧ At g st 247 "head" (.ref hd) ∧ At g st 247 "octets" (.bytes #[UInt8.ofNat k] t2) ∧
    SD w (PySem.strKind prg w) g hd hk ∧ valueAt hk "Subtype" = some (.ref nf) ∧ At g nf 204 "text" (.str "Form" t') ∧ valueAt hk "Matrix" = none ∧ valueAt hk "BBox" = none ∧ RowsAt g (hl k) (rowsOf true F.wishes) ∧ F.wishes.length ≤ 2 ∧
    match F.own with
    | none => valueAt hk "Resources" = none
    | some nm => ∃ ra, valueAt hk "Resources" = some (.ref ra) ∧ Res w g W ra nm
section
variable {w : World} {W : WorldD}
theorem XD.keeps {h h' : Heap} {x : Addr} {nm : Str → Option Nat} (u : XD w h W x nm) (k : ∀ b o, h.get? b = some o → h'.get? b = some o) : XD w h' W x nm := by
  obtain ⟨kvs, h1, h2⟩ := u
  refine ⟨kvs, h1.keeps k, fun c => ?_⟩
  have := h2 c
  split at this
  · exact this
  · walk_at "h"
    obtain ⟨v, hd, hk, nf, t, a1, a2, a3, a4, a5⟩ := this
    walk_at "u"
    exact ⟨v, hd, hk, nf, t, a1, a2.keeps k, a3.keeps k, a4, a5.keeps k⟩
  · walk_at "h"
    obtain ⟨r, t, t', F, a1, a2, a3, a4, a5⟩ := this
    walk_at "u"
    exact ⟨r, t, t', F, a1, a2.keeps k, a3.keeps k, a4.keeps k, a5⟩
theorem Res.keeps {h h' : Heap} {x : Addr} {nm : Str → Option Nat} (u : Res w h W x nm) (k : ∀ b o, h.get? b = some o → h'.get? b = some o) : Res w h' W x nm := by
  walk_at "h"
  obtain ⟨kvs, y, h1, h2, h3⟩ := u
  walk_at "u"
  exact ⟨kvs, y, h1.keeps k, h2, h3.keeps k⟩
theorem isList_keeps {h h' : Heap} {a : Addr} {xs : Array Value} (u : h.IsList a xs) (k : ∀ b o, h.get? b = some o → h'.get? b = some o) : h'.IsList a xs := u.at fun o e => k _ _ e
theorem OpAt.keeps {h h' : Heap} {o : Addr} {c : Option Str} (u : OpAt h o c) (k : ∀ b o, h.get? b = some o → h'.get? b = some o) : OpAt h' o c := by
  cases c with
  | none => obtain ⟨t, v, a1, a2⟩ := u; exact ⟨t, v, a1.keeps k, a2.keeps k⟩
  | some c => obtain ⟨t, l, n, t', a1, a2, a3, a4⟩ := u; exact ⟨t, l, n, t', a1.keeps k, a2.keeps k, isList_keeps a3 k, a4.keeps k⟩
theorem RowsAt.keeps {h h' : Heap} {r : Addr} {ops : List (Option Str)} (u : RowsAt h r ops) (k : ∀ b o, h.get? b = some o → h'.get? b = some o) : RowsAt h' r ops := by
  walk_at "h"
  obtain ⟨vs, h1, h2, h3⟩ := u
  walk_at "u"
  refine ⟨vs, isList_keeps h1 k, h2, fun i v c e e' => ?_⟩
  obtain ⟨o, e1, e2⟩ := h3 i v c e e'
  exact ⟨o, e1, e2.keeps k⟩
theorem FormAt.keeps {h h' : Heap} {tb : Addr} {hl : Nat → Addr} {j : Nat} {F : FormD} (u : FormAt w h W tb hl j F) (k : ∀ b o, h.get? b = some o → h'.get? b = some o) : FormAt w h' W tb hl j F := by
  walk_at "h"
  obtain ⟨tkvs, tp, st, t, hd, hk, nf, t', t2, a1, a2, a3, a4, a5, a6, a7, a8, a9, a10, a11, a12, a13⟩ := u
  walk_at "u"
  refine ⟨tkvs, tp, st, t, hd, hk, nf, t', t2, a1.keeps k, a2, a3.keeps k, a4.keeps k, a5.keeps k, a6.keeps k, a7, a8.keeps k, a9, a10, a11.keeps k, a12, ?_⟩
  split
  · rename_i e; simp only [e] at a13; exact a13
  · rename_i nm e; simp only [e] at a13
    obtain ⟨ra, b1, b2⟩ := a13
    exact ⟨ra, b1, b2.keeps k⟩
theorem cost_succ (n : Nat) : 3 * cost n + 2 = cost (n + 1) := by
  unfold cost
  have : 0 < 3 ^ (n + 1) := Nat.pow_pos (by decide)
  rw [Nat.pow_succ 3 (n + 1)]; omega
theorem cost_pos (n : Nat) : 2 ≤ cost n := by
  unfold cost
  have : 0 < 3 ^ n := Nat.pow_pos (by decide)
  rw [Nat.pow_succ]; omega
noncomputable def oc (n : Nat) : List (Option Str) → Nat
  | [] => 0
  | none :: r => 1 + oc n r
  | some _ :: r => cost n + oc n r
set_option tactic.hygienic true in
theorem walks_oc {f : Str → Option (List Str)} {n : Nat} (hf : ∀ c a, f c = some a → a.length ≤ cost n) : ∀ {l : List (Option Str)} {o : List Str}, walks (paints f) l = some o → o.length ≤ oc n l
  | [], o, h => by cases h; simp
  | c :: r, o, h => by
    rw [walks_cons] at h
    split at h
    · cases h
    · rename_i a ha
      split at h
      · cases h
      · rename_i b hb
        cases h
        have h2 := walks_oc hf hb
        rw [List.length_append]
        cases c with
        | none => cases ha; simp [oc]; omega
        | some c => have h1 := hf c a ha; simp only [oc]; omega
theorem oc_app (n : Nat) : ∀ (l r : List (Option Str)), oc n (l ++ r) = oc n l + oc n r
  | [], r => by simp [oc]
  | none :: l, r => by simp only [List.cons_append, oc, oc_app]; omega
  | some _ :: l, r => by simp only [List.cons_append, oc, oc_app]; omega
theorem oc_map (n : Nat) : ∀ (l : List Str), oc n (l.map some) = l.length * cost n
  | [] => by simp [oc]
  | _ :: l => by simp only [List.map_cons, oc, oc_map, List.length_cons, Nat.succ_mul]; omega
theorem oc_take (n i : Nat) (l : List (Option Str)) : oc n (l.take i) ≤ oc n l := by
  have := oc_app n (l.take i) (l.drop i)
  rw [List.take_append_drop] at this
  omega
theorem oc_rows (n : Nat) (ws : List Str) (h : ws.length ≤ 2) : oc n (rowsOf true ws) + cost n ≤ cost (n + 1) := by
  unfold rowsOf
  rw [oc_app, oc_app, oc_map, ← cost_succ]
  have : ws.length * cost n ≤ 2 * cost n := Nat.mul_le_mul_right _ h
  simp only [if_true, oc]; omega
end
section
variable {Γ : G} {l l' : List (Str × Value)} {news news' fz : List (Addr × Obj)} {s : Shared} {rest : List Stmt} {Q : Flow → Shared → Prop} {E : Value → Shared → Prop}
theorem CtP.run1 {f : Addr} {vs : List Value} {facts : Heap → Prop} {P : Value → Prop} {k : Nat} (c : CtP Γ.w f vs facts news P k) (room : Room Γ.A k) (hf : facts Γ.g) (mono : ∀ h h' : Heap, facts h → (∀ b o, h.get? b = some o → h'.get? b = some o) → facts h') :
    Run Γ l (news ++ fz) (call (.ref f) vs) P := CtP.run c room fun s C => mono _ _ hf fun b o e => (C.drop (List.sublist_append_left _ _)).g_le e
theorem Ct.use1 {f : Addr} {vs : List Value} {facts : Heap → Prop} {P : Value → List (Addr × Obj) → Prop} {may : Prop} {k : Nat} (c : Ct Γ.w f vs facts news P may k) (room : Room Γ.A k) (hf : facts Γ.g) (mono : ∀ h h' : Heap, facts h → (∀ b o, h.get? b = some o → h'.get? b = some o) → facts h') :
    CallX Γ l (news ++ fz) f vs (fun v n => ∃ n₁, n = n₁ ++ fz ∧ P v n₁) may := Ct.use c room fun s C => mono _ _ hf fun b o e => (C.drop (List.sublist_append_left _ _)).g_le e
def EvsX (Γ : G) (l : List (Str × Value)) (news : List (Addr × Obj)) (pos : Pos) (es : List Expr) (P : List Value → List (Addr × Obj) → Prop) (may : Prop) : Prop :=
  ∀ (s : Shared) (Q : List Value → Shared → Prop) (E : Value → Shared → Prop), Cx Γ l news s → (∀ v n s', P v n → Cx Γ l n s' → Q v s') → (may → ∀ e s', Flies Γ e s' → E e s') → wpAny (model prg Γ.w) Γ.A (spliced (backTo pos (starEach es Γ.env))) Q E s
theorem evsx_of {pos : Pos} {es : List Expr} {R : List Value → Prop} {may : Prop} (h : Evs Γ l news pos es R) : EvsX Γ l news pos es (fun vs n => R vs ∧ n = news) may := fun s Q E C k _ => h s Q E C fun v s' hv C' => k v news s' ⟨hv, rfl⟩ C'
theorem evsx_cons {e : Expr} {r : List Expr} {pos : Pos} {P : Value → List (Addr × Obj) → Prop} {R : Value → List (Addr × Obj) → List Value → List (Addr × Obj) → Prop} {may : Prop} (h : EvX Γ l news e P may) (hr : ∀ v n, P v n → EvsX Γ l n pos r (R v n) may)
    (he : starEach (e :: r) Γ.env = (false, eval e Γ.env) :: starEach r Γ.env := by rfl) : EvsX Γ l news pos (e :: r) (fun vs n => ∃ v n₁ u, P v n₁ ∧ R v n₁ u n ∧ vs = v :: u) may := fun s Q E C k hE =>
  spliced_more (h s _ E C (fun v n₁ s' hv C' => hr v n₁ hv s' _ E C' (fun u n s'' hu C'' => k _ _ _ ⟨v, n₁, u, hv, hu, rfl⟩ C'') hE) hE) he
theorem call_fnX {f : Addr} {o : Obj} {fdt : FuncData} {first : List Value} {e : Expr} {r : List Expr} {pos : Pos} {R : List Value → List (Addr × Obj) → Prop} {may : Prop} {Q : Value → Shared → Prop} (hk : (KL Γ.w.params).lookup f = some o) (hd : o.data = .func fdt)
    (ha : EvsX Γ l news pos (e :: r) R may) (C : Cx Γ l news s) (k : ∀ vs n s', R vs n → Cx Γ l n s' → wpAny (model prg Γ.w) Γ.A (call (.ref f) (first ++ vs)) Q E s') (hE : may → ∀ e s', Flies Γ e s' → E e s') (he : starEach (e :: r) Γ.env = (false, eval e Γ.env) :: starEach r Γ.env := by rfl) :
    wpAny (model prg Γ.w) Γ.A (callWith pos (.ref f) first (backTo pos (starEach (e :: r) Γ.env)) []) Q E s :=
  callWith_meth (h₀ := Γ.g) hd (C.k0 _ _ hk) (ha s _ E C (fun vs n s' hv C' => ⟨fun b o e => C'.keep e, k vs n s' hv C'⟩) hE) he
theorem evx_callX {fe : Expr} {F : FI} {e : Expr} {r : List Expr} {pos : Pos} {R : List Value → List (Addr × Obj) → Prop} {P : Value → List (Addr × Obj) → Prop} {may : Prop} (G : F.Good) (hf : Ev Γ l news fe (· = .ref F.f))
    (ha : EvsX Γ l news pos (e :: r) R may) (hc : ∀ vs n, R vs n → CallX Γ l n F.f vs P may) (he : starEach (e :: r) Γ.env = (false, eval e Γ.env) :: starEach r Γ.env := by rfl)
    (hc' : eval (.Call fe (e :: r) [] pos) Γ.env = (do callWith pos (← eval fe Γ.env) [] (backTo pos (starEach (e :: r) Γ.env)) (backToKw pos (keywordEach [] Γ.env))) := by rfl) : EvX Γ l news (.Call fe (e :: r) [] pos) P may := fun s Q E C k hE =>
  Call_ (hf s _ E C fun v s' hv C' => by subst hv; exact call_fnX (first := []) (G.k _) rfl ha C' (fun vs n s₂ hv C₂ => hc vs n hv s₂ Q E C₂ k hE) hE he) hc'
theorem evx_tupE {es : List Expr} {kk : Nat} {pos : Pos} {R : List Value → Prop} {may : Prop} (h : Evs Γ l news pos es R) (hn : ∀ vs, R vs → vs.length ≤ 1000) :
    EvX Γ l news (.Tuple es kk pos) (fun v n => ∃ vs a, R vs ∧ v = .ref a ∧ n = news ++ [(a, { cls := .type "tuple", data := .seq vs.toArray })]) may := fun s Q E C k _ =>
  Tuple_ (h s _ E C fun vs s₁ hv C₁ => wpAny_newObj_type (k _ _ _ ⟨vs, _, hv, rfl, rfl⟩ (C₁.allocE _ rfl)) (by show vs.toArray.size ≤ sizeLine; rw [List.size_toArray]; exact Nat.le_trans (hn vs hv) (by decide)))
theorem ev_add_str {a b : Expr} {pos : Pos} {x y : Str} (ha : Ev Γ l news a (IsS x)) (hb : Ev Γ l news b (IsS y)) (hsz : x.length + y.length ≤ 10000) : Ev Γ l news (.BinOp a .Add b pos) (IsS (x ++ y)) := fun s Q E C k =>
  wpAny_BinOp (ha s _ E C fun u s₁ hu C₁ => hb s₁ _ E C₁ fun v s₂ hv C₂ => by
    obtain ⟨t, rfl⟩ := hu
    obtain ⟨t', rfl⟩ := hv
    exact PyProof.Rows.add_str (fun t tk => k _ _ ⟨_, rfl⟩ (C₂.tok _)) (Nat.le_trans hsz (by rw [sizeLine_eq]; decide)))
end
structure PaintF (w : World) (g : Heap) (W : WorldD) (D : PD) (V : PV) (hl : Nat → Addr) (nm : Str → Option Nat) (ab : List Nat) (n : Nat) (OF : Heap → Prop) : Prop where
  pf : PF g D
  sf : ∃ mx cl fi sr vd kvs, SF g V.st mx cl fi sr vd ∧ SD w (PySem.strKind prg w) g vd kvs ∧ kvs.length ≤ 1000
  re : ∃ ra, V.re = .ref ra ∧ Res w g W ra nm
  fl : handedIn V.fl = true
  sk : handedIn V.sk = true
  op : handedIn D.op = true
  of : OF g
  wf : ∀ k F, W k = some F → FormAt w g W D.tb hl k F ∧ k ≤ 200 ∧ F.wishes.length ≤ 2 ∧ ∀ c ∈ F.wishes, c.length ≤ 100
  fs : ∃ as : List Addr, V.fs = as.map .ref ∧ as.length = ab.length ∧ ∀ (i : Nat) a k, as[i]? = some a → ab[i]? = some k → ∃ t t' F, W k = some F ∧ IsTup g a #[.int (k : Int) t, .int F.gen t']
  len : ab.length + n = 8
  sz : V.ms.length + cost n ≤ 90000 ∧ V.cs.length + cost n ≤ 90000
theorem PaintF.keeps {w : World} {h h' : Heap} {W : WorldD} {D : PD} {V : PV} {hl : Nat → Addr} {nm : Str → Option Nat} {ab : List Nat} {n : Nat} {OF : Heap → Prop} (hOF : ∀ h h' : Heap, OF h → (∀ b o, h.get? b = some o → h'.get? b = some o) → OF h') (u : PaintF w h W D V hl nm ab n OF)
    (k : ∀ b o, h.get? b = some o → h'.get? b = some o) : PaintF w h' W D V hl nm ab n OF := by
  walk_at "h"
  obtain ⟨pf, ⟨mx, cl, fi, sr, vd, kvs, s1, s2, s3⟩, ⟨ra, r1, r2⟩, fl, sk, op, of, wf, ⟨as, f1, f2, f3⟩, len, sz⟩ := u
  walk_at "u"
  exact ⟨pf.keeps k, ⟨mx, cl, fi, sr, vd, kvs, s1.keeps k, s2.keeps k, s3⟩, ⟨ra, r1, r2.keeps k⟩, fl, sk, op, hOF _ _ of k, fun j F e => ⟨(wf j F e).1.keeps k, (wf j F e).2⟩, ⟨as, f1, f2, fun i a j e e' => by
    walk_at "h"
    obtain ⟨t, t', F, h1, h2⟩ := f3 i a j e e'
    walk_at "u"
    exact ⟨t, t', F, h1, h2.keeps k⟩⟩, len, sz⟩
inductive MarkOf : List Str → List (Addr × Obj) → Prop
  | nil : MarkOf [] []
  | cons {x : Str} {a : Addr} {t t' : Tok} {m : Value} {r : List Str} {q : List (Addr × Obj)} : MarkOf r q → MarkOf (x :: r) ((a, { cls := .type "tuple", data := .seq #[.str "image" t, .str x t', m] }) :: q)
theorem MarkOf.app {a b : List Str} {p q : List (Addr × Obj)} (h : MarkOf a p) (h' : MarkOf b q) : MarkOf (a ++ b) (p ++ q) := by
  induction h with
  | nil => exact h'
  | cons _ ih => exact .cons ih
theorem MarkOf.length {a : List Str} {p : List (Addr × Obj)} (h : MarkOf a p) : p.length = a.length := by
  induction h with
  | nil => rfl
  | cons _ ih => simp [ih]
structure After (V V' : PV) (objs : List (Addr × Obj)) : Prop where
  re : V'.re = V.re
  st : V'.st = V.st
  fl : V'.fl = V.fl
  sk : V'.sk = V.sk
  fs : V'.fs = V.fs
  ms : V'.ms = V.ms ++ objs.map fun p => .ref p.1
  cs : V'.cs.length = V.cs.length + objs.length
def PostM (P : Params) (D : PD) (V : PV) (res : Option (List Str)) (v : Value) (n : List (Addr × Obj)) : Prop := v = .none ∧ ∃ out objs V', res = some out ∧ MarkOf out objs ∧ n = core P D V' ++ objs ∧ After V V' objs
section
variable {w : World} {D : PD} {V : PV} {W : WorldD} {hl : Nat → Addr} {nm : Str → Option Nat} {ab : List Nat} {n : Nat} {OF : Heap → Prop} {c : Str} {t : Tok}
theorem do_object_none (hOF : ∀ h h' : Heap, OF h → (∀ b o, h.get? b = some o → h'.get? b = some o) → OF h') (hc : c.length ≤ 100) (hn : nm c = none) :
    Ct w F_do_object.f [.ref D.pa, .str c t] (fun g => PaintF w g W D V hl nm ab n OF) (core w.params D V) (PostM w.params D V (walk W n c nm ab)) (walk W n c nm ab = none) 6 := by
  have hw : walk W n c nm ab = none := by cases n <;> simp [walk, hn]
  refine ct_def (F := F_do_object) (binds := [(Str.ofString "painter", .ref D.pa), (Str.ofString "name", .str c t)]) (k := 5) G_do_object (by kernel_rfl) (by kernel_rfl) (by kernel_rfl) fun A s₀ g L outer base hf rm => ?_
  walk_at "h"
  obtain ⟨ra, hre, kvs, x, r1, r2, xvs, r3, r4⟩ := hf.re
  walk_at "u"
  have hcv : valueAt xvs c = none := by have := r4 c; rw [hn] at this; exact this
  conv => { arg 4; whnf }
  refine ex_assign (P := (· = Value.none)) (ev_callP G_named (ev_glob (g_named _)) (evs_cons (by walk_at "nm") (evs_cons ev_str (evs_cons (by walk_at "nm") evs_nil))) fun vs hv => ?_) (by kernel_rfl) (by walk_at "sub") (by kernel_rfl) fun v hv => ?_
  · walk_at "h"
    obtain ⟨v, rfl, u, ⟨v', ⟨t', rfl⟩, u', ⟨v'', rfl, u'', rfl, rfl⟩, rfl⟩, rfl⟩ := hv
    walk_at "u"
    refine Run.mono (CtP.run1 (news := [pdict w.params D V]) (fz := _) (named (V := V) (ra := ra) (x := x) (kvs := kvs) (xvs := xvs)) (rm.le (by decide)) ⟨hf.pf, hre, r1, r2, r3⟩ fun h h' hf k => ⟨hf.1.keeps k, hf.2.1, hf.2.2.1.keeps k, hf.2.2.2.1, hf.2.2.2.2.keeps k⟩) fun a h => ?_
    rw [h, hcv]; rfl
  subst hv
  refine ex_assign (P := (· = Value.none)) (ev_meth (x := D.sa) G_Lookup_fetch (m_fetch _) (ev_attr_name (by walk_at "nm") (pa_shelf hf.pf (by walk_at "mem"))) (fun s C => hf.pf.shelf.fetch.keeps fun b o => C.keep)
    (evs_cons (by walk_at "nm") evs_nil) (fun vs hv => ?_) (by walk_at "mc")) (by kernel_rfl) (by walk_at "sub") (by kernel_rfl) fun v hv => ?_
  · walk_at "h"
    obtain ⟨v, rfl, u, rfl, rfl⟩ := hv
    walk_at "u"
    exact CtP.run0 (fetch (tb := D.tb)) (rm.le (by decide)) ⟨hf.pf.shelf.table, .plain .none⟩ fun h h' hf k => ⟨hf.1.keeps k, hf.2.keeps k⟩
  subst hv
  refine ex_if_t (ist_not (b := false) (ist_bool (ev_isi (ev_bltn (b_isinstance _) (b_isinstance' _)) (by walk_at "nm") (ev_glob (g_Stream _)) (isi_none (by kernel_rfl)))) (by rfl)) ?_
  exact ex_raise hw (rm.le (by decide)) (ev_add_str ev_str (ev_nameP (P := IsS c) (by walk_at "mem") ⟨_, rfl⟩) (by have : (Str.ofString "no object of the name ").length = 22 := (by kernel_rfl); omega)) (by kernel_rfl)
end
theorem CallX.mono {Γ : G} {l : List (Str × Value)} {news : List (Addr × Obj)} {f : Addr} {vs : List Value} {P P' : Value → List (Addr × Obj) → Prop} {may : Prop} (h : CallX Γ l news f vs P may) (k : ∀ v n, P v n → P' v n) : CallX Γ l news f vs P' may := fun s Q E C q hE => h s Q E C (fun v n s' hp C' => q v n s' (k v n hp) C') hE
theorem a_smatrix (P : Params) : attrOk (KL P) 597 "matrix" = true := by kernel_rfl
section
variable {w : World} {D : PD} {V : PV} {W : WorldD} {hl : Nat → Addr} {nm : Str → Option Nat} {ab : List Nat} {n : Nat} {OF : Heap → Prop} {c : Str} {t : Tok}
theorem do_object_img (hOF : ∀ h h' : Heap, OF h → (∀ b o, h.get? b = some o → h'.get? b = some o) → OF h') (hn : nm c = some 0) :
    Ct w F_do_object.f [.ref D.pa, .str c t] (fun g => PaintF w g W D V hl nm ab n OF) (core w.params D V) (PostM w.params D V (walk W n c nm ab)) (walk W n c nm ab = none) 6 := by
  have hw : walk W n c nm ab = some [c] := by cases n <;> simp [walk, hn]
  refine ct_def (F := F_do_object) (binds := [(Str.ofString "painter", .ref D.pa), (Str.ofString "name", .str c t)]) (k := 5) G_do_object (by kernel_rfl) (by kernel_rfl) (by kernel_rfl) fun A s₀ g L outer base hf rm => ?_
  walk_at "h"
  obtain ⟨ra, hre, kvs, x, r1, r2, xvs, r3, r4⟩ := hf.re
  walk_at "u"
  obtain ⟨v, hd, hk, nf, tt, i1, i2, i3, i4, i5⟩ : ∃ v hd hk nf t, valueAt xvs c = some (.ref v) ∧ At g v 247 "head" (.ref hd) ∧ SD w (PySem.strKind prg w) g hd hk ∧ valueAt hk "Subtype" = some (.ref nf) ∧ At g nf 204 "text" (.str "Image" t) := by have := r4 c; rw [hn] at this; exact this
  walk_at "h"
  obtain ⟨mx, cl, fi, sr, vd, vvs, ⟨sta, hst, s1, s2, s3, s4, s5⟩, s6, s7⟩ := hf.sf
  walk_at "u"
  conv => { arg 4; whnf }
  refine ex_assign (P := (· = Value.ref v)) (ev_callP G_named (ev_glob (g_named _)) (evs_cons (by walk_at "nm") (evs_cons ev_str (evs_cons (by walk_at "nm") evs_nil))) fun vs hv => ?_) (by kernel_rfl) (by walk_at "sub") (by kernel_rfl) fun v' hv => ?_
  · walk_at "h"
    obtain ⟨v', rfl, u, ⟨v'', ⟨t', rfl⟩, u', ⟨v''', rfl, u'', rfl, rfl⟩, rfl⟩, rfl⟩ := hv
    walk_at "u"
    refine Run.mono (CtP.run1 (news := [pdict w.params D V]) (fz := _) (named (V := V) (ra := ra) (x := x) (kvs := kvs) (xvs := xvs)) (rm.le (by decide)) ⟨hf.pf, hre, r1, r2, r3⟩ fun h h' hf k => ⟨hf.1.keeps k, hf.2.1, hf.2.2.1.keeps k, hf.2.2.2.1, hf.2.2.2.2.keeps k⟩) fun a h => ?_
    rw [h, i1]; rfl
  subst hv
  refine ex_assign (P := (· = Value.ref v)) (ev_meth (x := D.sa) G_Lookup_fetch (m_fetch _) (ev_attr_name (by walk_at "nm") (pa_shelf hf.pf (by walk_at "mem"))) (fun s C => hf.pf.shelf.fetch.keeps fun b o => C.keep)
    (evs_cons (by walk_at "nm") evs_nil) (fun vs hv => ?_) (by walk_at "mc")) (by kernel_rfl) (by walk_at "sub") (by kernel_rfl) fun v' hv => ?_
  · walk_at "h"
    obtain ⟨v', rfl, u, rfl, rfl⟩ := hv
    walk_at "u"
    exact CtP.run0 (fetch (tb := D.tb)) (rm.le (by decide)) ⟨hf.pf.shelf.table, .plain (.stream i2.ins)⟩ fun h h' hf k => ⟨hf.1.keeps k, hf.2.keeps k⟩
  subst hv
  refine ex_if_f (ist_not (b := true) (ist_bool (ev_isi (ev_bltn (b_isinstance _) (b_isinstance' _)) (by walk_at "nm") (ev_glob (g_Stream _)) (isi_own (own_Stream _) (fun s C => i2.ins.keeps fun b o => C.keep) (by kernel_rfl)))) (by rfl)) ?_
  refine ex_assign (P := (· = Value.ref nf)) (ev_meth (x := D.sa) G_Lookup_get (m_get _) (ev_attr_name (by walk_at "nm") (pa_shelf hf.pf (by walk_at "mem"))) (fun s C => hf.pf.shelf.get.keeps fun b o => C.keep)
    (evs_cons (ev_attr_name (by walk_at "nm") (get_at (a_shead _) (at_imm i2))) (evs_cons ev_str evs_nil)) (fun vs hv => ?_) (by walk_at "mc")) (by kernel_rfl) (by walk_at "sub") (by kernel_rfl) fun v' hv => ?_
  · walk_at "h"
    obtain ⟨v', rfl, u, ⟨v'', ⟨t', rfl⟩, u', rfl, rfl⟩, rfl⟩ := hv
    walk_at "u"
    exact CtP.run0 (lget (tb := D.tb) (kvs := hk) (r := .ref nf)) (rm.le (by decide)) ⟨hf.pf.shelf, i3, by rw [i4]; exact .plain (.name i5.ins)⟩ fun h h' hf k => ⟨hf.1.keeps k, hf.2.1.keeps k, hf.2.2.keeps k⟩
  subst hv
  refine ex_assign (P := (· = Value.str "Image" tt)) (ev_if_t (ist_bool (ev_isi (ev_bltn (b_isinstance _) (b_isinstance' _)) (by walk_at "nm") (ev_glob (g_Name _)) (isi_own (own_Name _) (fun s C => i5.ins.keeps fun b o => C.keep) (by kernel_rfl))))
    (ev_attr_name (by walk_at "nm") (get_at (a_ntext _) (at_imm i5)))) (by kernel_rfl) (by walk_at "sub") (by kernel_rfl) fun v' hv => ?_
  subst hv
  refine ex_if_t (ist_cmp (ev_nameP (P := IsS "Image") (by walk_at "mem") ⟨_, rfl⟩) ev_str (cmp_eq_str (by kernel_rfl))) ?_
  refine exx_expr (P := fun n => PostM w.params D V (some [c]) .none n) (may := False) (EvX.mono (evx_callX G_put_mark (ev_glob (g_put_mark _))
    (evsx_cons (evx_of (by walk_at "nm" : Ev _ _ _ _ (· = Value.ref D.pa))) fun v' n' hv => evsx_cons (P := fun v n => ∃ ti m a, v = .ref a ∧ n = core w.params D V ++ [(a, { cls := .type "tuple", data := .seq #[.str "image" ti, .str c t, m] })]) ?tup fun v'' n'' hv' => evsx_of evs_nil)
    (P := fun v n => PostM w.params D V (some [c]) v n) fun vs n' hv => ?_) fun v n h => by obtain ⟨rfl, h⟩ := h; exact ⟨rfl, rfl, h⟩) (fun h => h.elim) fun n' hn' => ?_
  case tup =>
    obtain ⟨rfl, rfl⟩ := hv
    refine EvX.mono (evx_tupE (evs_cons ev_str (evs_cons (by walk_at "nm") (evs_cons (ev_attr_attr (a := sta) (ev_attr_name (by walk_at "nm") ((pa_state (V := V) hf.pf (by walk_at "mem") (by rw [hst]; rfl)).mono fun _ h => h.trans hst)) ((get_at (a_smatrix _) (at_imm s1)).mono fun _ h => h)) evs_nil))) ?ln) (hide2 fun _ u9 v n h => ?fin)
    case ln => rintro _ ⟨_, _, _, ⟨_, _, _, ⟨_, _, _, rfl, rfl⟩, rfl⟩, rfl⟩; simp
    case fin =>
      obtain ⟨vs, a, ⟨_, ⟨ti, rfl⟩, _, ⟨_, rfl, _, ⟨m, _, _, rfl, rfl⟩, rfl⟩, rfl⟩, rfl, rfl⟩ := h
      refine u9 _ _ ?_; clear u9
      exact ⟨ti, m, a, rfl, rfl⟩
  · walk_at "h"
    obtain ⟨v1, n1, u1, ⟨rfl, rfl⟩, ⟨v2, n2, u2, ⟨ti, m, a, rfl, rfl⟩, ⟨rfl, rfl⟩, rfl⟩, rfl⟩ := hv
    walk_at "u"
    have hsz : V.ms.length ≤ 90000 ∧ V.cs.length ≤ 90000 := by have := hf.sz; omega
    refine CallX.mono (Ct.use1 (news := core w.params D V) (fz := [(a, { cls := .type "tuple", data := .seq #[.str "image" ti, .str c t, m] })]) (put_mark (m := .ref a) (mx := mx) (cl := cl) (fi := fi) (sr := sr) (vd := vd) hsz) (rm.le (by decide)) ⟨hf.pf, ⟨sta, hst, s1, s2, s3, s4, s5⟩⟩ fun h h' hf k => ⟨hf.1.keeps k, hf.2.keeps k⟩) (hide2 fun _ u9 v n h => ?_)
    obtain ⟨n₁, rfl, rfl, rfl⟩ := h
    refine u9 _ _ ?_; clear u9
    exact ⟨rfl, [c], _, _, rfl, .cons .nil, rfl, ⟨rfl, rfl, rfl, rfl, rfl, by simp, by simp⟩⟩
  · exact ex_nil fun s C => ⟨_, _, C, by rw [hw]; exact hn'⟩
end
section
variable {w : World} {D : PD} {V : PV} {W : WorldD} {hl : Nat → Addr} {nm : Str → Option Nat} {ab : List Nat} {n : Nat} {OF : Heap → Prop} {c : Str} {t : Tok}
def DoOk (w : World) (D : PD) (W : WorldD) (hl : Nat → Addr) (nm : Str → Option Nat) (ab : List Nat) (n : Nat) (OF : Heap → Prop) (kd : Nat) : Prop :=
  ∀ (V : PV) (c : Str) (t : Tok), c.length ≤ 100 → Ct w F_do_object.f [.ref D.pa, .str c t] (fun g => PaintF w g W D V hl nm ab n OF) (core w.params D V) (PostM w.params D V (walk W n c nm ab)) (walk W n c nm ab = none) kd
theorem perform_any {x : Str} {v : Value} {facts : Heap → Prop} {P : Value → List (Addr × Obj) → Prop} {may : Prop} {k : Nat} (Wx : PlainW x) (hPF : ∀ g, facts g → PF g D) (mono : ∀ h h' : Heap, facts h → (∀ b o, h.get? b = some o → h'.get? b = some o) → facts h') (hk : 1 ≤ k)
    (hP : ∀ u n, P u n → u = .none) (hd : Ct w F_do_other.f [.ref D.pa, .str x t, v] facts (core w.params D V) P may k) : Ct w F_perform.f [.ref D.pa, .str x t, v] facts (core w.params D V) P may (k + 1) := by
  refine ct_def (F := F_perform) (binds := [(Str.ofString "painter", .ref D.pa), (Str.ofString "word", .str x t), (Str.ofString "values", v)]) G_perform (by kernel_rfl) (by kernel_rfl) (by kernel_rfl) fun A s₀ g L outer base hf rm => ?_
  conv => { arg 4; whnf }
  have tst : ∀ {a : Addr} {vs : List Value} {n : Nat} {ys : List Str} {g1 : Str} {p1 p2 p3 : Pos}, (KL w.params).lookup a = some ⟨.type "tuple", none, .seq vs.toArray n, #[]⟩ → StrsAre vs ys → ys.any (· == x) = false → nsIn (KL w.params) mainGlobals g1 = some (some (.ref a)) →
      (FI.env F_perform L).kindOf g1 = some .globalImplicit → (g1 == ("__debug__" : Str)) = false →
      IsT ⟨w, A, s₀, g, L, outer, base, FI.env F_perform L⟩ [(Str.ofString "painter", .ref D.pa), (Str.ofString "word", .str x t), (Str.ofString "values", v)] (core w.params D V) (.Compare (.Name "word" p1) [.In] [.Name g1 p2] p3) false := fun h1 h2 h3 h4 h5 h6 =>
    ist_cmp (ev_nameP (P := IsS x) (by walk_at "mem") ⟨_, rfl⟩) (ev_glob h4 h5 h6) (in_topS h1 h2 h3)
  refine exx_expr (P := fun n => n = core w.params D V) (may := False) (EvX.mono (evx_of (ev_callP G_check_place (ev_glob (g_check_place _)) (evs_cons (by walk_at "nm") (evs_cons (by walk_at "nm") evs_nil)) fun vs hv => ?_)) fun v n h => h) (fun h => h.elim) fun n hn => ?_
  · walk_at "h"
    obtain ⟨v, rfl, u, ⟨v', rfl, u', rfl, rfl⟩, rfl⟩ := hv
    walk_at "u"
    exact CtP.run1 (news := [pdict w.params D V]) (fz := _) (check_place Wx) (rm.le hk) (hPF _ hf) fun h h' hf k => hf.keeps k
  subst hn
  refine ex_if_f (tst (k_STATE_WORDS _) s_STATE_WORDS Wx.st (g_STATE_WORDS _) (by kernel_rfl) (by kernel_rfl)) ?_
  refine ex_if_f (tst (k_LINE_WORDS _) s_LINE_WORDS Wx.ln (g_LINE_WORDS _) (by kernel_rfl) (by kernel_rfl)) ?_
  refine ex_if_f (tst (k_PATH_WORDS _) s_PATH_WORDS Wx.pt (g_PATH_WORDS _) (by kernel_rfl) (by kernel_rfl)) ?_
  refine ex_if_f (tst (k_CLIP_WORDS _) s_CLIP_WORDS Wx.cl (g_CLIP_WORDS _) (by kernel_rfl) (by kernel_rfl)) ?_
  refine ex_if_f (tst (k_PAINT_WORDS _) s_PAINT_WORDS Wx.pn (g_PAINT_WORDS _) (by kernel_rfl) (by kernel_rfl)) ?_
  refine ex_if_f (tst (k_COLOUR_WORDS _) s_COLOUR_WORDS Wx.co (g_COLOUR_WORDS _) (by kernel_rfl) (by kernel_rfl)) ?_
  refine ex_if_f (tst (k_TEXT_WORDS _) s_TEXT_WORDS Wx.te (g_TEXT_WORDS _) (by kernel_rfl) (by kernel_rfl)) ?_
  refine ex_if_f (tst (k_PLACE_WORDS _) s_PLACE_WORDS Wx.pl (g_PLACE_WORDS _) (by kernel_rfl) (by kernel_rfl)) ?_
  refine ex_if_f (tst (k_SHOW_WORDS _) s_SHOW_WORDS Wx.sh (g_SHOW_WORDS _) (by kernel_rfl) (by kernel_rfl)) ?_
  refine exx_expr (P := fun n => P .none n) (may := may) (EvX.mono (evx_call (f := 0) G_do_other (ev_glob (g_do_other _)) (evs_cons (by walk_at "nm") (evs_cons (by walk_at "nm") (evs_cons (by walk_at "nm") evs_nil))) (P := P) fun vs hv => ?_) fun v n h => by have := hP _ _ h; subst this; exact ⟨rfl, h⟩) (fun m e s' h => ⟨m, h⟩) fun n hn => ?_
  · walk_at "h"
    obtain ⟨v, rfl, u, ⟨v', rfl, u', ⟨v'', rfl, u'', rfl, rfl⟩, rfl⟩, rfl⟩ := hv
    walk_at "u"
    have z := Ct.use1 (Γ := ⟨w, A, s₀, g, L, outer, base, FI.env F_perform L⟩) (l := [(Str.ofString "painter", .ref D.pa), (Str.ofString "word", .str x t), (Str.ofString "values", v'')]) (fz := []) hd rm hf mono
    exact CallX.mono z fun v n h => by obtain ⟨n₁, rfl, h⟩ := h; rw [List.append_nil]; exact h
  · exact ex_nil fun s C => ⟨_, _, C, hn⟩
def OprAt (g : Heap) (v : Value) : Option Str → Prop
  | none => True
  | some c => ∃ l n t', v = .ref l ∧ g.IsList l #[.ref n] ∧ At g n 204 "text" (.str c t')
theorem OprAt.keeps {h h' : Heap} {v : Value} {c : Option Str} (u : OprAt h v c) (k : ∀ b o, h.get? b = some o → h'.get? b = some o) : OprAt h' v c := by
  cases c with
  | none => trivial
  | some c => obtain ⟨l, n, t', a1, a2, a3⟩ := u; exact ⟨l, n, t', a1, isList_keeps a2 k, a3.keeps k⟩
noncomputable def opWord : Option Str → Str
  | none => "BI"
  | some _ => "Do"
theorem do_other_Do {kd : Nat} {v : Value} (hOF : ∀ h h' : Heap, OF h → (∀ b o, h.get? b = some o → h'.get? b = some o) → OF h') (hd : DoOk w D W hl nm ab n OF kd) (hc : c.length ≤ 100) (hk : 1 ≤ kd) :
    Ct w F_do_other.f [.ref D.pa, .str "Do" t, v] (fun g => PaintF w g W D V hl nm ab n OF ∧ OprAt g v (some c)) (core w.params D V) (PostM w.params D V (walk W n c nm ab)) (walk W n c nm ab = none) (kd + 1) := by
  refine ct_def (F := F_do_other) (binds := [(Str.ofString "painter", .ref D.pa), (Str.ofString "word", .str "Do" t), (Str.ofString "values", v)]) G_do_other (by kernel_rfl) (by kernel_rfl) (by kernel_rfl) fun A s₀ g L outer base hf rm => ?_
  walk_at "h"
  obtain ⟨hf, lv, nv, tv, rfl, o1, o2⟩ := hf
  walk_at "u"
  conv => { arg 4; whnf }
  refine ex_if_f (ist_cmp (ev_nameP (P := IsS "Do") (by walk_at "mem") ⟨_, rfl⟩) ev_str (cmp_eq_str (by kernel_rfl))) ?_
  refine ex_if_f (ist_cmp (ev_nameP (P := IsS "Do") (by walk_at "mem") ⟨_, rfl⟩) ev_str (cmp_eq_str (by kernel_rfl))) ?_
  refine ex_if_t (ist_cmp (ev_nameP (P := IsS "Do") (by walk_at "mem") ⟨_, rfl⟩) ev_str (cmp_eq_str (by kernel_rfl))) ?_
  refine exx_expr (P := fun n' => PostM w.params D V (walk W n c nm ab) .none n') (may := walk W n c nm ab = none) (EvX.mono (evx_call (f := 0) G_do_object (ev_glob (g_do_object _)) (evs_cons (by walk_at "nm") (evs_cons (P := IsS c)
    (ev_callP G_name_of (ev_glob (g_name_of _)) (evs_cons (by walk_at "nm") evs_nil) fun vs hv => ?_) evs_nil)) (P := PostM w.params D V (walk W n c nm ab)) fun vs hv => ?_) fun v n h => by obtain ⟨rfl, h⟩ := h; exact ⟨rfl, rfl, h⟩) (fun m e s' h => ⟨m, h⟩) fun n' hn' => ?_
  · walk_at "h"
    obtain ⟨v, rfl, u, rfl, rfl⟩ := hv
    walk_at "u"
    exact CtP.run0 (name_of (n := nv)) (rm.le hk) ⟨o1, tv, o2⟩ fun h h' hf k => ⟨isList_keeps hf.1 k, let ⟨t, e⟩ := hf.2; ⟨t, e.keeps k⟩⟩
  · walk_at "h"
    obtain ⟨v, rfl, u, ⟨v', ⟨t', rfl⟩, u', rfl, rfl⟩, rfl⟩ := hv
    walk_at "u"
    have z := Ct.use1 (Γ := ⟨w, A, s₀, g, L, outer, base, FI.env F_do_other L⟩) (l := [(Str.ofString "painter", .ref D.pa), (Str.ofString "word", .str "Do" t), (Str.ofString "values", .ref lv)]) (fz := []) (hd V c t' hc) rm hf fun h h' hf k => hf.keeps hOF k
    exact CallX.mono z fun v n h => by obtain ⟨n₁, rfl, h⟩ := h; rw [List.append_nil]; exact h
  · exact ex_nil fun s C => ⟨_, _, C, hn'⟩
theorem do_other_BI {v : Value} : Ct w F_do_other.f [.ref D.pa, .str "BI" t, v] (fun g => PaintF w g W D V hl nm ab n OF) (core w.params D V) (PostM w.params D V (some [""])) False 6 := by
  refine ct_def (F := F_do_other) (binds := [(Str.ofString "painter", .ref D.pa), (Str.ofString "word", .str "BI" t), (Str.ofString "values", v)]) (k := 5) G_do_other (by kernel_rfl) (by kernel_rfl) (by kernel_rfl) fun A s₀ g L outer base hf rm => ?_
  walk_at "h"
  obtain ⟨mx, cl, fi, sr, vd, vvs, ⟨sta, hst, s1, s2, s3, s4, s5⟩, s6, s7⟩ := hf.sf
  walk_at "u"
  conv => { arg 4; whnf }
  refine ex_if_f (ist_cmp (ev_nameP (P := IsS "BI") (by walk_at "mem") ⟨_, rfl⟩) ev_str (cmp_eq_str (by kernel_rfl))) ?_
  refine ex_if_f (ist_cmp (ev_nameP (P := IsS "BI") (by walk_at "mem") ⟨_, rfl⟩) ev_str (cmp_eq_str (by kernel_rfl))) ?_
  refine ex_if_f (ist_cmp (ev_nameP (P := IsS "BI") (by walk_at "mem") ⟨_, rfl⟩) ev_str (cmp_eq_str (by kernel_rfl))) ?_
  refine ex_if_t (ist_cmp (ev_nameP (P := IsS "BI") (by walk_at "mem") ⟨_, rfl⟩) ev_str (cmp_eq_str (by kernel_rfl))) ?_
  refine exx_expr (P := fun n => PostM w.params D V (some [""]) .none n) (may := False) (EvX.mono (evx_callX G_put_mark (ev_glob (g_put_mark _))
    (evsx_cons (evx_of (by walk_at "nm" : Ev _ _ _ _ (· = Value.ref D.pa))) fun v' n' hv => evsx_cons (P := fun v n => ∃ ti te m a, v = .ref a ∧ n = core w.params D V ++ [(a, { cls := .type "tuple", data := .seq #[.str "image" ti, .str "" te, m] })]) ?tup fun v'' n'' hv' => evsx_of evs_nil)
    (P := fun v n => PostM w.params D V (some [""]) v n) fun vs n' hv => ?_) fun v n h => by obtain ⟨rfl, h⟩ := h; exact ⟨rfl, rfl, h⟩) (fun h => h.elim) fun n' hn' => ?_
  case tup =>
    obtain ⟨rfl, rfl⟩ := hv
    refine EvX.mono (evx_tupE (evs_cons ev_str (evs_cons ev_str (evs_cons (ev_attr_attr (a := sta) (ev_attr_name (by walk_at "nm") ((pa_state (V := V) hf.pf (by walk_at "mem") (by rw [hst]; rfl)).mono fun _ h => h.trans hst)) ((get_at (a_smatrix _) (at_imm s1)).mono fun _ h => h)) evs_nil))) ?ln) (hide2 fun _ u9 v n h => ?fin)
    case ln => rintro _ ⟨_, _, _, ⟨_, _, _, ⟨_, _, _, rfl, rfl⟩, rfl⟩, rfl⟩; simp
    case fin =>
      obtain ⟨vs, a, ⟨_, ⟨ti, rfl⟩, _, ⟨_, ⟨te, rfl⟩, _, ⟨m, _, _, rfl, rfl⟩, rfl⟩, rfl⟩, rfl, rfl⟩ := h
      refine u9 _ _ ?_; clear u9
      exact ⟨ti, te, m, a, rfl, rfl⟩
  · walk_at "h"
    obtain ⟨v1, n1, u1, ⟨rfl, rfl⟩, ⟨v2, n2, u2, ⟨ti, te, m, a, rfl, rfl⟩, ⟨rfl, rfl⟩, rfl⟩, rfl⟩ := hv
    walk_at "u"
    have hsz : V.ms.length ≤ 90000 ∧ V.cs.length ≤ 90000 := by have := hf.sz; omega
    refine CallX.mono (Ct.use1 (news := core w.params D V) (fz := [(a, { cls := .type "tuple", data := .seq #[.str "image" ti, .str "" te, m] })]) (put_mark (m := .ref a) (mx := mx) (cl := cl) (fi := fi) (sr := sr) (vd := vd) hsz) (rm.le (by decide)) ⟨hf.pf, ⟨sta, hst, s1, s2, s3, s4, s5⟩⟩ fun h h' hf k => ⟨hf.1.keeps k, hf.2.keeps k⟩) (hide2 fun _ u9 v n h => ?_)
    obtain ⟨n₁, rfl, rfl, rfl⟩ := h
    refine u9 _ _ ?_; clear u9
    exact ⟨rfl, [""], _, _, rfl, .cons .nil, rfl, ⟨rfl, rfl, rfl, rfl, rfl, by simp, by simp⟩⟩
  · exact ex_nil fun s C => ⟨_, _, C, hn'⟩
end
section
variable {w : World} {D : PD} {V : PV} {W : WorldD} {hl : Nat → Addr} {nm : Str → Option Nat} {ab : List Nat} {n : Nat} {OF : Heap → Prop} {c : Str} {t : Tok}
theorem walk_le (hW : ∀ k F, W k = some F → F.wishes.length ≤ 2) : ∀ {n : Nat} {c : Str} {nm : Str → Option Nat} {ab : List Nat} {o : List Str}, walk W n c nm ab = some o → o.length ≤ cost n
  | 0, c, nm, ab, o, h => by
    unfold walk at h
    split at h
    · cases h; have := cost_pos 0; simp; omega
    · cases h
  | n + 1, c, nm, ab, o, h => by
    unfold walk at h
    split at h
    · cases h
    · cases h; have := cost_pos (n + 1); simp; omega
    · split at h
      · cases h
      · split at h
        · cases h
        · rename_i F hF
          have h1 := walks_oc (n := n) (fun c a e => walk_le hW e) h
          have h2 := oc_rows n F.wishes (hW _ _ hF)
          omega
theorem Ct.mono {f : Addr} {vs : List Value} {facts facts' : Heap → Prop} {news : List (Addr × Obj)} {P P' : Value → List (Addr × Obj) → Prop} {may may' : Prop} {k k' : Nat} (c : Ct w f vs facts news P may k) (hf : ∀ g, facts' g → facts g) (hP : ∀ v n, P v n → P' v n) (hm : may → may') (hk : k ≤ k') :
    Ct w f vs facts' news P' may' k' := fun A outer base g s Q E Pr room h hQ hE => c A outer base g s Q E Pr (room.le hk) (hf g h) (fun v n s' hp B => hQ v n s' (hP v n hp) B) fun m => hE (hm m)
theorem Cx.perm {Γ : G} {l : List (Str × Value)} {news news' : List (Addr × Obj)} {s : Shared} (C : Cx Γ l news s) (h : news.Perm news') : Cx Γ l news' s :=
  ⟨C.ok, C.fr, fun p hp => C.nw p (h.mem_iff.mpr hp), (h.map _).nodup_iff.mp C.nd, C.gens, C.drawn, C.os⟩
theorem PaintF.after {g : Heap} {V' : PV} {objs : List (Addr × Obj)} (u : PaintF w g W D V hl nm ab n OF) (a : After V V' objs) (sz : V'.ms.length + cost n ≤ 90000 ∧ V'.cs.length + cost n ≤ 90000) : PaintF w g W D V' hl nm ab n OF := by
  walk_at "h"
  obtain ⟨pf, sf, re, fl, sk, op, of, wf, fs, len, _⟩ := u
  walk_at "u"
  exact ⟨pf, by rw [a.st]; exact sf, by rw [a.re]; exact re, by rw [a.fl]; exact fl, by rw [a.sk]; exact sk, op, of, wf, by rw [a.fs]; exact fs, len, sz⟩
theorem perform_op {kd : Nat} {v : Value} {oc : Option Str} (hOF : ∀ h h' : Heap, OF h → (∀ b o, h.get? b = some o → h'.get? b = some o) → OF h') (hd : DoOk w D W hl nm ab n OF kd) (hc : ∀ c, oc = some c → c.length ≤ 100) (hk : 6 ≤ kd) :
    Ct w F_perform.f [.ref D.pa, .str (opWord oc) t, v] (fun g => PaintF w g W D V hl nm ab n OF ∧ OprAt g v oc) (core w.params D V) (PostM w.params D V (paints (fun c => walk W n c nm ab) oc)) (paints (fun c => walk W n c nm ab) oc = none) (kd + 2) := by
  cases oc with
  | none =>
    refine Ct.mono (perform_any (k := 6) plain_BI (facts := fun g => PaintF w g W D V hl nm ab n OF) (fun g h => h.pf) (fun h h' u k => u.keeps hOF k) (by decide) (fun u n h => h.1) do_other_BI) (fun g h => h.1) (fun v n h => h) (fun h => h.elim) (by omega)
  | some c =>
    exact perform_any plain_Do (fun g h => h.1.pf) (fun h h' u k => ⟨u.1.keeps hOF k, u.2.keeps k⟩) (by omega) (fun u n h => h.1) (do_other_Do hOF hd (hc c rfl) (by omega))
theorem a_oword (P : Params) : attrOk (KL P) 908 "word" = true := by kernel_rfl
theorem a_ooperands (P : Params) : attrOk (KL P) 908 "operands" = true := by kernel_rfl
theorem OpAt.opr {g : Heap} {o : Addr} {c : Option Str} (h : OpAt g o c) : ∃ t v, At g o 908 "word" (.str (opWord c) t) ∧ At g o 908 "operands" (.ref v) ∧ OprAt g (.ref v) c := by
  cases c with
  | none => obtain ⟨t, v, a, b⟩ := h; exact ⟨t, v, a, b, trivial⟩
  | some c => obtain ⟨t, l, n, t', a, b, d, e⟩ := h; exact ⟨t, l, a, b, l, n, t', rfl, d, e⟩
theorem paint_all {kd : Nat} {r : Addr} {ops : List (Option Str)} (hOF : ∀ h h' : Heap, OF h → (∀ b o, h.get? b = some o → h'.get? b = some o) → OF h') (hd : DoOk w D W hl nm ab n OF kd) (hc : ∀ c, some c ∈ ops → c.length ≤ 100) (hk : 6 ≤ kd)
    (hsz : V.ms.length + oc n ops + cost n ≤ 90000 ∧ V.cs.length + oc n ops + cost n ≤ 90000) :
    Ct w F_paint_all.f [.ref D.pa, .ref r] (fun g => PaintF w g W D V hl nm ab n OF ∧ RowsAt g r ops) (core w.params D V) (PostM w.params D V (walks (paints fun c => walk W n c nm ab) ops)) (walks (paints fun c => walk W n c nm ab) ops = none) (kd + 3) := by
  refine ct_def (F := F_paint_all) (binds := [(Str.ofString "painter", .ref D.pa), (Str.ofString "operations", .ref r)]) G_paint_all (by kernel_rfl) (by kernel_rfl) (by kernel_rfl) fun A s₀ g L outer base hf rm => ?_
  walk_at "h"
  obtain ⟨hf, vs, hlst, hlen, hrow⟩ := hf
  walk_at "u"
  have hW : ∀ k F, W k = some F → F.wishes.length ≤ 2 := fun k F e => (hf.wf k F e).2.2.1
  conv => { arg 4; whnf }
  refine ex_for (may := walks (paints fun c => walk W n c nm ab) ops = none) (fun i l n' => l = [(Str.ofString "painter", .ref D.pa), (Str.ofString "operations", .ref r)] ∧ PostM w.params D V (walks (paints fun c => walk W n c nm ab) (ops.take i)) .none n')
    (makes_list (items := vs.toArray) (by walk_at "nm") hlst (fun _ => by rfl)) ⟨rfl, rfl, [], [], V, by simp [walks], .nil, by simp, ⟨rfl, rfl, rfl, rfl, rfl, by simp, by simp⟩⟩ (by kernel_rfl) ?_ ?_ ?_
  · rintro i l n' ⟨rfl, -⟩; kernel_rfl
  · intro i v l n' fz hi hv h97
    walk_at "h"
    obtain ⟨rfl, -, out, objs, V', h1, h2, rfl, h4⟩ := h97
    walk_at "u"
    rw [List.size_toArray] at hi
    have hv' : vs[i]? = some v := by simpa using hv
    have hio : i < ops.length := by omega
    obtain ⟨o, rfl, hop⟩ := hrow i v ops[i] hv' (by first | (walk_at "in"; done) | simp [hio])
    walk_at "h"
    obtain ⟨t, ov, a1, a2, a3⟩ := hop.opr
    walk_at "u"
    have hout : out.length ≤ oc n ops := Nat.le_trans (walks_oc (fun c a e => walk_le hW e) h1) (oc_take n i ops)
    have hF' : PaintF w g W D V' hl nm ab n OF := hf.after h4 (by
      have := h2.length
      rw [h4.ms, h4.cs, List.length_append, List.length_map]; omega)
    have hsplit : walks (paints fun c => walk W n c nm ab) (ops.take i ++ [ops[i]]) = (match paints (fun c => walk W n c nm ab) ops[i] with | none => none | some b => some (out ++ b)) := by
      rw [walks_app, h1]
      dsimp only
      rw [walks_cons]
      cases paints (fun c => walk W n c nm ab) ops[i] <;> simp [walks]
    refine exx_expr (P := fun n₂ => ∃ n₁, n₂ = n₁ ++ (objs ++ fz) ∧ PostM w.params D V' (paints (fun c => walk W n c nm ab) ops[i]) .none n₁) (may := paints (fun c => walk W n c nm ab) ops[i] = none)
      (EvX.mono (evx_call (f := 0) G_perform (ev_glob (g_perform _)) (evs_cons (by walk_at "nm") (evs_cons (ev_attr_name (by walk_at "nm") (get_at (a_oword _) (at_imm a1))) (evs_cons (ev_attr_name (by walk_at "nm") (get_at (a_ooperands _) (at_imm a2))) evs_nil)))
        (P := fun v n₂ => ∃ n₁, n₂ = n₁ ++ (objs ++ fz) ∧ PostM w.params D V' (paints (fun c => walk W n c nm ab) ops[i]) v n₁) fun us hu => ?_) fun v n h => ?_) (fun m e s' h => ⟨?_, h⟩) fun n₂ hn₂ => ?_
    · walk_at "h"
      obtain ⟨_, rfl, _, ⟨_, rfl, _, ⟨_, rfl, _, rfl, rfl⟩, rfl⟩, rfl⟩ := hu
      walk_at "u"
      rw [List.append_assoc]
      exact Ct.use1 (fz := objs ++ fz) (perform_op hOF hd (fun c e => hc c (e ▸ List.getElem_mem hio)) hk) (rm.le (by omega)) ⟨hF', a3⟩ fun h h' u k => ⟨u.1.keeps hOF k, u.2.keeps k⟩
    · obtain ⟨n₁, rfl, h⟩ := h
      obtain ⟨rfl, h⟩ := h
      exact ⟨rfl, n₁, rfl, rfl, h⟩
    · have e1 : ops = ops.take i ++ (ops[i] :: ops.drop (i + 1)) := by rw [List.getElem_cons_drop hio, List.take_append_drop]
      rw [e1, walks_app, h1]
      dsimp only
      rw [walks_cons, m]
    · walk_at "h"
      obtain ⟨n₁, rfl, -, out', objs', V'', g1, g2, rfl, g4⟩ := hn₂
      walk_at "u"
      refine ex_nil fun s C => ⟨[(Str.ofString "painter", .ref D.pa), (Str.ofString "operations", .ref r)], core w.params D V'' ++ (objs ++ objs'), ⟨rfl, rfl, out ++ out', objs ++ objs', V'', ?_, h2.app g2, rfl, ⟨g4.re.trans h4.re, g4.st.trans h4.st, g4.fl.trans h4.fl, g4.sk.trans h4.sk, g4.fs.trans h4.fs, ?_, ?_⟩⟩, (C.weak (by walk_at "sub")).perm ?_⟩
      · rw [List.take_succ_eq_append_getElem hio, hsplit, g1]
      · rw [g4.ms, h4.ms, List.map_append, List.append_assoc]
      · rw [g4.cs, h4.cs, List.length_append]; omega
      · simp only [List.append_assoc]
        exact List.Perm.append_left _ (by rw [← List.append_assoc, ← List.append_assoc]; exact List.Perm.append_right _ List.perm_append_comm)
  · rintro l n' ⟨rfl, hn'⟩
    rw [List.size_toArray, hlen, List.take_length] at hn'
    walk_at "h"
    obtain ⟨-, out, objs, V', h1, h2, rfl, h4⟩ := hn'
    walk_at "u"
    refine ex_if_f (ist_ne_unit (ev_attr_attr (ev_attr_name (by walk_at "nm") (pa_path (V := V') hf.pf (List.mem_append_left _ (.head _)))) (get_at (a_parts _) (at_imm hf.pf.path))) fun s C => hf.pf.unit.keeps fun b o => C.keep) ?_
    refine ex_if_f (ist_cmp (ev_attr_name (by walk_at "nm") (pa_text (V := V') hf.pf (List.mem_append_left _ (.head _)))) ev_none (cmp_isnot_none (by rfl))) ?_
    exact ex_nil fun s C => ⟨_, _, C, rfl, out, objs, V', h1, h2, rfl, h4⟩
end
section
variable {Γ : G} {l l' : List (Str × Value)} {news news' fz : List (Addr × Obj)} {s : Shared} {rest : List Stmt} {Q : Flow → Shared → Prop} {E : Value → Shared → Prop}
noncomputable def setOk (K : Frag) (C : Addr) (n : Str) : Bool := (findIn K (.ref C) "__setattr__" == some (some (.builtin "object.__setattr__"))) && plainOver K C && (takerIn K C n == some none) && hasDictIn K C
theorem Rep.split {d : Addr} {o o' : Obj} {n n' : List (Addr × Obj)} (h : Rep d o o' n n') : ∃ pre post, n = pre ++ (d, o) :: post ∧ n' = pre ++ (d, o') :: post := by
  induction h with
  | head => exact ⟨[], _, rfl, rfl⟩
  | tail _ ih => obtain ⟨p, q, rfl, rfl⟩ := ih; exact ⟨_ :: p, q, rfl, rfl⟩
theorem st_set {x C d : Addr} {es : List DictEntry} {n n' : Nat} {name : Str} {v : Value} {es' : Tok → List DictEntry} {nw : Tok → List (Addr × Obj)} {Q : Unit → Shared → Prop} {E : Value → Shared → Prop} (ok : setOk (KL Γ.w.params) C name = true) (hx : s.heap.get? x = some (instObj C d)) (hl : (getL name es).isSome = true)
    (e : ∀ t, (putL name (PyData.keyHash Γ.w.params name) (.str name t) v es, putN name es n) = (es' t, n')) (R : ∀ t, Rep d (dictOf es n) (dictOf (es' t) n') news (nw t)) (hz : ∀ t, (es' t).length ≤ 1000) (C₀ : Cx Γ l news s)
    (k : ∀ t s', Cx Γ l (nw t) s' → Q () s') : wpAny (model prg Γ.w) Γ.A (setAttr (.ref x) name v) Q E s := by
  unfold setOk at ok
  simp only [Bool.and_eq_true, beq_iff_eq] at ok
  walk_at "h"
  obtain ⟨⟨⟨k1, k2⟩, k3⟩, k4⟩ := ok
  walk_at "u"
  obtain ⟨m, F, hm⟩ := C₀.fr
  have hd := C₀.obj (R 0).mem
  exact set_dict F C₀.k0 C₀.nw (⟨hx, rfl, rfl, hd⟩ : InstAt s.heap x (instObj C d) C (some (dictOf es n))) rfl k1 k2 k3 k4 hl (e _) ((R _).upd C₀.nd) (hz _) fun h' F' N' => k _ _ ⟨C₀.ok, ⟨m, F', hm⟩, N', by rw [(R _).addrs]; exact C₀.nd, C₀.gens, C₀.drawn, C₀.os⟩
theorem ps_state (P : Params) : setOk (KL P) 739 "state" = true := by kernel_rfl
theorem ps_resources (P : Params) : setOk (KL P) 739 "resources" = true := by kernel_rfl
theorem ps_floor (P : Params) : setOk (KL P) 739 "floor" = true := by kernel_rfl
theorem ps_skips (P : Params) : setOk (KL P) 739 "skips" = true := by kernel_rfl
theorem ps_pile (P : Params) : setOk (KL P) 739 "pile" = true := by kernel_rfl
variable {D : PD} {V : PV}
theorem pset_state {v : Value} {Q : Unit → Shared → Prop} {E : Value → Shared → Prop} (hf : PF Γ.g D) (C : Cx Γ l (core Γ.w.params D V ++ fz) s) (k : ∀ s', Cx Γ l (core Γ.w.params D { V with st := v } ++ fz) s' → Q () s') : wpAny (model prg Γ.w) Γ.A (setAttr (.ref D.pa) "state" v) Q E s :=
  st_set (n' := V.n) (es' := fun _ => pent Γ.w.params V.tk (.ref D.sa) V.re D.op v (.ref V.pl) V.fl (.ref D.xa) D.ru .none V.sk (.ref D.fo) (.ref D.mr) (.ref D.cp)) (ps_state _) (C.keep hf.pa) (by kernel_rfl) (fun t => by kernel_rfl) (fun _ => .head) (fun _ => by show 13 ≤ 1000; omega) C fun _ s' C' => k s' C'
theorem pset_resources {v : Value} {Q : Unit → Shared → Prop} {E : Value → Shared → Prop} (hf : PF Γ.g D) (C : Cx Γ l (core Γ.w.params D V ++ fz) s) (k : ∀ s', Cx Γ l (core Γ.w.params D { V with re := v } ++ fz) s' → Q () s') : wpAny (model prg Γ.w) Γ.A (setAttr (.ref D.pa) "resources" v) Q E s :=
  st_set (n' := V.n) (es' := fun _ => pent Γ.w.params V.tk (.ref D.sa) v D.op V.st (.ref V.pl) V.fl (.ref D.xa) D.ru .none V.sk (.ref D.fo) (.ref D.mr) (.ref D.cp)) (ps_resources _) (C.keep hf.pa) (by kernel_rfl) (fun t => by kernel_rfl) (fun _ => .head) (fun _ => by show 13 ≤ 1000; omega) C fun _ s' C' => k s' C'
theorem pset_floor {v : Value} {Q : Unit → Shared → Prop} {E : Value → Shared → Prop} (hf : PF Γ.g D) (C : Cx Γ l (core Γ.w.params D V ++ fz) s) (k : ∀ s', Cx Γ l (core Γ.w.params D { V with fl := v } ++ fz) s' → Q () s') : wpAny (model prg Γ.w) Γ.A (setAttr (.ref D.pa) "floor" v) Q E s :=
  st_set (n' := V.n) (es' := fun _ => pent Γ.w.params V.tk (.ref D.sa) V.re D.op V.st (.ref V.pl) v (.ref D.xa) D.ru .none V.sk (.ref D.fo) (.ref D.mr) (.ref D.cp)) (ps_floor _) (C.keep hf.pa) (by kernel_rfl) (fun t => by kernel_rfl) (fun _ => .head) (fun _ => by show 13 ≤ 1000; omega) C fun _ s' C' => k s' C'
theorem pset_skips {v : Value} {Q : Unit → Shared → Prop} {E : Value → Shared → Prop} (hf : PF Γ.g D) (C : Cx Γ l (core Γ.w.params D V ++ fz) s) (k : ∀ s', Cx Γ l (core Γ.w.params D { V with sk := v } ++ fz) s' → Q () s') : wpAny (model prg Γ.w) Γ.A (setAttr (.ref D.pa) "skips" v) Q E s :=
  st_set (n' := V.n) (es' := fun _ => pent Γ.w.params V.tk (.ref D.sa) V.re D.op V.st (.ref V.pl) V.fl (.ref D.xa) D.ru .none v (.ref D.fo) (.ref D.mr) (.ref D.cp)) (ps_skips _) (C.keep hf.pa) (by kernel_rfl) (fun t => by kernel_rfl) (fun _ => .head) (fun _ => by show 13 ≤ 1000; omega) C fun _ s' C' => k s' C'
end
section
variable {Γ : G} {l l' : List (Str × Value)} {news news' fz : List (Addr × Obj)} {s : Shared} {rest : List Stmt} {Q : Flow → Shared → Prop} {E : Value → Shared → Prop}
theorem evx_meth0 {o : Expr} {n : Str} {apos pos : Pos} {x C : Addr} {F : FI} {P : Value → List (Addr × Obj) → Prop} {may : Prop} (G : F.Good) (ok : methOk (KL Γ.w.params) C n F.f = true) (ho : Ev Γ l news o (· = .ref x)) (hno : ∀ s, Cx Γ l news s → NoAt s.heap x C n)
    (hc : CallX Γ l news F.f [.ref x] P may) (hm : MC Γ o n [] apos pos) : EvX Γ l news (.Call (.Attribute o n apos) [] [] pos) P may := fun s Q E C k hE =>
  hm.elim fun pl hm => hm _ _ _ (ho s _ E C fun v s₁ hv C₁ => by
    subst hv
    unfold methOk at ok
    simp only [Bool.and_eq_true, beq_iff_eq] at ok
    obtain ⟨⟨k1, k2⟩, k3⟩ := ok
    walk_at "h"
    obtain ⟨d, es, i, h1, h2, h3⟩ := hno s₁ C₁
    walk_at "u"
    refine method_fn C₁.k (⟨h1, rfl, rfl, h2⟩ : InstAt s₁.heap x (instObj _ d) _ (some (dictOf es i))) (plainGet_of k1).1 (plainGet_of k1).2 k2 k3 ?_ ?_
    · have h3' : lookIn n (dictOf es i) = some none := h3
      exact congrArg (fun z => Option.map (fun x => x.isSome) z) h3'
    · exact callWith_meth0 (o := F.obj) rfl (C₁.k _ _ (G.k _)) (hc s₁ Q E C₁ k hE))
theorem m_pair (P : Params) : methOk (KL P) 275 "pair" F_Reference_pair.f = true := by kernel_rfl
theorem pair {w : World} {r : Addr} {k gn : Int} {t t' : Tok} : Ct w F_Reference_pair.f [.ref r] (fun g => At g r 275 "number" (.int k t) ∧ At g r 275 "generation" (.int gn t')) [] (fun v n => ∃ a, v = .ref a ∧ n = [(a, { cls := .type "tuple", data := .seq #[.int k t, .int gn t'] })]) False 1 := by
  refine ct_def (F := F_Reference_pair) (binds := [(Str.ofString "self", .ref r)]) (k := 0) G_Reference_pair (by kernel_rfl) (by kernel_rfl) (by kernel_rfl) fun A s₀ g L outer base hf rm => ?_
  conv => { arg 4; whnf }
  refine exx_ret (may := False) (evx_tupE (evs_cons (ev_attr_name (by walk_at "nm") (get_at (a_rnumber _) (at_imm hf.1))) (evs_cons (ev_attr_name (by walk_at "nm") (get_at (a_rgeneration _) (at_imm hf.2))) evs_nil)) ?_) (fun h => h.elim) fun v n s h C => ?_
  · rintro _ ⟨_, _, _, ⟨_, _, _, rfl, rfl⟩, rfl⟩; simp
  · walk_at "h"
    obtain ⟨vs, a, ⟨_, rfl, _, ⟨_, rfl, _, rfl, rfl⟩, rfl⟩, rfl, rfl⟩ := h
    walk_at "u"
    exact ⟨_, _, C, a, rfl, rfl⟩
end
def CtC (w : World) (f : Addr) (vs : List Value) (facts : Heap → Prop) (news : List (Addr × Obj)) (P : Value → List (Addr × Obj) → Prop) (may : Prop) (k : Nat) : Prop :=
  ∀ A outer base g s (R : Result → Shared → Prop), Pre w A outer base g news s → Room A k → facts g → (∀ v n s', P v n → Back g n s s' → R (.ok (.ret v)) s') → (may → ∀ e s', Thrown g base outer s e s' → R (.error e) s') →
    codeAny (model prg w) A (.call (.ref f) ⟨vs, []⟩) R s
section
variable {w : World} {F : FI} {vs : List Value} {binds : List (Str × Value)} {facts : Heap → Prop} {news : List (Addr × Obj)} {P : Value → List (Addr × Obj) → Prop} {may : Prop} {k : Nat}
theorem ctc_bind (G : F.Good) (hbind : ∀ s, SB w s.heap → BindsTo s F.fdt ⟨vs, []⟩ binds) (hloc : (binds.all fun x => decide ((fS F.p).names.lookup x.1 = some .local)) = true) (hdup : decide (binds.map (·.1)).Nodup = true)
    (body : ∀ A s₀ g L outer base, facts g → Room A k → Ex ⟨w, A, s₀, g, L, outer, base, F.env L⟩ binds news (fB F.p) (Ends ⟨w, A, s₀, g, L, outer, base, F.env L⟩ P) (fun e s => may ∧ Flies ⟨w, A, s₀, g, L, outer, base, F.env L⟩ e s)) :
    CtC w F.f vs facts news P may (k + 1) := fun A outer base g s R Pr room hf hQ hE => by
  refine enter (binds := binds) Pr (by have := room.1; omega) (by have := room.2; omega) (G.k _) (G.c _) (hbind s fun b o e => Pr.keep b o (Pr.st b o e)) hloc G.nc G.co G.ge G.kd (of_decide_eq_true hdup) fun L s₁ C₁ => ?_
  refine wpAny_mono (body (A.deeper (F.env L)) s g L outer base hf ⟨?_, ?_⟩ s₁ C₁) (fun fl s' h => ?_) (fun e s' h => ?_)
  · have := room.1; show A.depth + 1 + 2 * k < 590; omega
  · have := room.2; show A.units + 3 + 20 * k < 8990; omega
  · walk_at "h"
    obtain ⟨l', n, C', hP⟩ := h
    walk_at "u"
    exact hQ _ n s' hP C'.back_of
  · exact h.2.leave C₁.ok fun s'' T => hE h.1 _ s'' T
theorem ctc_def (G : F.Good) (hbind : bindArgs F.fdt ⟨vs, []⟩ = pure binds) (hloc : (binds.all fun x => decide ((fS F.p).names.lookup x.1 = some .local)) = true) (hdup : decide (binds.map (·.1)).Nodup = true)
    (body : ∀ A s₀ g L outer base, facts g → Room A k → Ex ⟨w, A, s₀, g, L, outer, base, F.env L⟩ binds news (fB F.p) (Ends ⟨w, A, s₀, g, L, outer, base, F.env L⟩ P) (fun e s => may ∧ Flies ⟨w, A, s₀, g, L, outer, base, F.env L⟩ e s)) :
    CtC w F.f vs facts news P may (k + 1) := ctc_bind G (fun s _ => BindsTo.of_eq hbind) hloc hdup body
theorem ctc_defD {T : Addr} {o : Obj} {items : Array Value} {n : Nat} {kb : Option (Array Value) → Sem (List (Str × Value))} (G : F.Good)
    (hd : F.fdt.defaults = .ref T) (ho : (KL w.params).lookup T = some o) (hs : o.data = .seq items n) (h₁ : bindArgs F.fdt ⟨vs, []⟩ = seqItems? F.fdt.defaults >>= kb) (h₂ : kb (some items) = pure binds)
    (hloc : (binds.all fun x => decide ((fS F.p).names.lookup x.1 = some .local)) = true) (hdup : decide (binds.map (·.1)).Nodup = true)
    (body : ∀ A s₀ g L outer base, facts g → Room A k → Ex ⟨w, A, s₀, g, L, outer, base, F.env L⟩ binds news (fB F.p) (Ends ⟨w, A, s₀, g, L, outer, base, F.env L⟩ P) (fun e s => may ∧ Flies ⟨w, A, s₀, g, L, outer, base, F.env L⟩ e s)) :
    CtC w F.f vs facts news P may (k + 1) := ctc_bind G (fun s S => binds_K (kl_in S) hd ho hs h₁ h₂) hloc hdup body
end
section
variable {Γ : G} {l l' : List (Str × Value)} {news news' fz : List (Addr × Obj)} {s : Shared} {rest : List Stmt}
noncomputable def makeOk (K : Frag) (C : Addr) (f : Addr) : Bool := makesIn K C && (findIn K (.ref C) "__init__" == some (some (.ref f))) && (typeIn K (.ref f) == some (.type "function"))
theorem mk_inst {C : Addr} {F : FI} {args : List Value} {facts : Heap → Prop} {P : Addr → Addr → List (Addr × Obj) → Prop} {k : Nat} {Q : Value → Shared → Prop} {E : Value → Shared → Prop} (ok : makeOk (KL Γ.w.params) C F.f = true)
    (c : ∀ x dx, CtC Γ.w F.f (.ref x :: args) facts [(x, instObj C dx), (dx, emptyDict)] (fun v n => v = .none ∧ P x dx n) False k) (rm : Room Γ.A (k + 1)) (C₀ : Cx Γ l (news ++ fz) s) (hf : ∀ x dx s', Cx Γ l ([(x, instObj C dx), (dx, emptyDict)] ++ (news ++ fz)) s' → facts (gOf s' [(x, instObj C dx), (dx, emptyDict)]))
    (h : ∀ x dx n s', P x dx n → Cx Γ l (n ++ (news ++ fz)) s' → Q (.ref x) s') : wpAny (model prg Γ.w) Γ.A (call (.ref C) args) Q E s := by
  unfold makeOk at ok
  simp only [Bool.and_eq_true, beq_iff_eq] at ok
  obtain ⟨⟨k1, k2⟩, k3⟩ := ok
  obtain ⟨m, F', hm⟩ := C₀.fr
  refine wpAny_call (make_K F' C₀.nw C₀.k k1 k2 k3 fun x dx h' F1 N1 h1 h2 => ?_)
  have C1 : Cx Γ l ([(x, instObj C dx), (dx, emptyDict)] ++ (news ++ fz)) { s with heap := h' } := by
    refine ⟨C₀.ok, ⟨m, F1, hm⟩, N1, ?_, C₀.gens, C₀.drawn, C₀.os⟩
    have nd := C₀.nd
    simp only [List.cons_append, List.nil_append, List.map_cons, List.nodup_cons, List.mem_cons, not_or]
    refine ⟨⟨Nat.ne_of_gt h2, fun q => ?_⟩, fun q => ?_, nd⟩
    · obtain ⟨p, hp, e⟩ := List.mem_map.mp q
      have := h1 p hp; rw [e] at this; exact absurd h2 (Nat.not_lt.mpr (Nat.le_of_lt this))
    · obtain ⟨p, hp, e⟩ := List.mem_map.mp q
      have := h1 p hp; rw [e] at this; exact absurd this (Nat.lt_irrefl _)
  have P1 := C1.preF
  refine c x dx _ _ _ _ _ _ ⟨C₀.ok.hA, C₀.ok.hh, P1.bs, P1.bf, P1.st, P1.keep, P1.size, P1.mu, P1.nd⟩ ⟨?_, ?_⟩ (hf x dx _ C1) (fun v n s' hp B => ?_) (fun h => h.elim)
  · have := rm.1
    show Γ.A.depth + 1 + 2 * k < 590; omega
  · have := rm.2
    show Γ.A.units + 1 + 20 * k < 8990; omega
  · obtain ⟨rfl, hp⟩ := hp
    exact ⟨rfl, h x dx n s' hp (C1.afterF B)⟩
end
section
variable {Γ : G} {l l' : List (Str × Value)} {news news' fz : List (Addr × Obj)} {s : Shared} {rest : List Stmt} {Q : Flow → Shared → Prop} {Er : Value → Shared → Prop}
theorem ex_init1 {o e : Expr} {ap pos : Pos} {x C d : Addr} {es : List DictEntry} {n : Nat} {name : Str} {v : Value} (he : Ev Γ l [(x, instObj C d), (d, dictOf es n)] e (· = v)) (ho : Ev Γ l [(x, instObj C d), (d, dictOf es n)] o (· = .ref x)) (ok : setOk (KL Γ.w.params) C name = true) (hl : (getL name es).isSome = true)
    (e' : ∀ t, (putL name (PyData.keyHash Γ.w.params name) (.str name t) v es, putN name es n) = (es ++ [⟨PyData.keyHash Γ.w.params name, .str name t, v⟩], n + 1)) (hz : es.length ≤ 100)
    (k : ∀ t, Ex Γ l [(x, instObj C d), (d, dictOf (es ++ [⟨PyData.keyHash Γ.w.params name, .str name t, v⟩]) (n + 1))] rest Q Er) (hs : swapsWith e (some (.Attribute o name ap)) pos.line Γ.env = pure false := by rfl) :
    Ex Γ l [(x, instObj C d), (d, dictOf es n)] (.Assign [.Attribute o name ap] e pos :: rest) Q Er := fun s C₀ =>
  wpAny_execs_cons (plainObj_wpAny_Assign_Attribute (he s _ _ C₀ fun u s₁ hu C₁ => ho s₁ _ _ C₁ fun ov s₂ hov C₂ => by
    subst hu hov
    exact st_set (nw := fun t => [(x, instObj C d), (d, dictOf (es ++ [⟨PyData.keyHash Γ.w.params name, .str name t, u⟩]) (n + 1))]) ok (C₂.obj (.head _)) hl e' (fun t => .tail .head) (fun t => by simp; omega) C₂ fun t s₃ C₃ => k t s₃ C₃) hs)
theorem mk_State (P : Params) : makeOk (KL P) 597 F_State_init.f = true := by kernel_rfl
theorem so_State (P : Params) : setOk (KL P) 597 "matrix" = true ∧ setOk (KL P) 597 "clips" = true ∧ setOk (KL P) 597 "fill" = true ∧ setOk (KL P) 597 "stroke" = true ∧ setOk (KL P) 597 "values" = true := ⟨by kernel_rfl, by kernel_rfl, by kernel_rfl, by kernel_rfl, by kernel_rfl⟩
theorem state_init {w : World} {x dx : Addr} {a b c d e : Value} : CtC w F_State_init.f [.ref x, a, b, c, d, e] (fun _ => True) [(x, instObj 597 dx), (dx, emptyDict)]
    (fun v n => v = .none ∧ ∃ t1 t2 t3 t4 t5 k, n = [(x, instObj 597 dx), (dx, dictOf [E w.params "matrix" t1 a, E w.params "clips" t2 b, E w.params "fill" t3 c, E w.params "stroke" t4 d, E w.params "values" t5 e] k)]) False 1 := by
  refine ctc_def (F := F_State_init) (binds := [(Str.ofString "self", .ref x), (Str.ofString "matrix", a), (Str.ofString "clips", b), (Str.ofString "fill", c), (Str.ofString "stroke", d), (Str.ofString "values", e)]) (k := 0) G_State_init (by kernel_rfl) (by kernel_rfl) (by kernel_rfl) fun A s₀ g L outer base hf rm => ?_
  conv => { arg 4; whnf }
  walk_at "h"
  obtain ⟨o1, o2, o3, o4, o5⟩ := so_State w.params
  walk_at "u"
  show Ex _ _ [(x, instObj 597 dx), (dx, dictOf [] 0)] _ _ _
  refine ex_init1 (v := a) (by walk_at "nm") (by walk_at "nm") o1 (by kernel_rfl) (fun t => by kernel_rfl) (by simp) fun t1 => ?_
  refine ex_init1 (v := b) (by walk_at "nm") (by walk_at "nm") o2 (by kernel_rfl) (fun t => by kernel_rfl) (by simp) fun t2 => ?_
  refine ex_init1 (v := c) (by walk_at "nm") (by walk_at "nm") o3 (by kernel_rfl) (fun t => by kernel_rfl) (by simp) fun t3 => ?_
  refine ex_init1 (v := d) (by walk_at "nm") (by walk_at "nm") o4 (by kernel_rfl) (fun t => by kernel_rfl) (by simp) fun t4 => ?_
  refine ex_init1 (v := e) (by walk_at "nm") (by walk_at "nm") o5 (by kernel_rfl) (fun t => by kernel_rfl) (by simp) fun t5 => ?_
  exact ex_nil fun s C => ⟨_, _, C, rfl, t1, t2, t3, t4, t5, _, rfl⟩
end
section
variable {Γ : G} {l l' : List (Str × Value)} {news news' fz : List (Addr × Obj)} {s : Shared} {rest : List Stmt}
theorem evx_dictof {K : Type} [DecidableEq K] {knd : KeyKind prg Γ.w K} {fe e : Expr} {pos : Pos} {src : Addr} {kvs : List (K × Value)} {may : Prop} (hf : Ev Γ l news fe (· = .type "dict")) (he : Ev Γ l news e (· = .ref src)) (h : ∀ s, Cx Γ l news s → SD Γ.w knd s.heap src kvs) (hz : kvs.length ≤ 1000)
    (hst : starEach (e :: []) Γ.env = (false, eval e Γ.env) :: starEach [] Γ.env := by rfl)
    (hc' : eval (.Call fe [e] [] pos) Γ.env = (do callWith pos (← eval fe Γ.env) [] (backTo pos (starEach [e] Γ.env)) (backToKw pos (keywordEach [] Γ.env))) := by rfl) :
    EvX Γ l news (.Call fe [e] [] pos) (fun v n => ∃ a o, v = .ref a ∧ n = (a, o) :: news ∧ o.IsDictOf knd kvs ∧ (a == sysModules) = false) may :=
  ev_tcall hf (evs_cons he evs_nil hst) (fun vs hv s Q E C k => by
    walk_at "h"
    obtain ⟨v, rfl, u, rfl, rfl⟩ := hv
    walk_at "u"
    obtain ⟨m, F, hm⟩ := C.fr
    have hlow : (s.heap.objs.size == sysModules) = false := F.notModules (modules_low C.ok.st.lim)
    refine kt_call_dict (knd := knd) (h s C).2 (h s C).1 (Nat.le_trans hz (by rw [sizeLine_eq]; decide)) fun h' hd hs => ?_
    obtain ⟨o, ho, hdo⟩ := Heap.dictOf_iff.mp hd
    exact k _ _ _ ⟨_, o, rfl, rfl, hdo, hlow⟩ ((C.alloc { cls := .type "dict", data := .dict #[] } rfl).same (n := s.toks) .head hs ho)) hst (by rfl) hc'
theorem a_sfill (P : Params) : attrOk (KL P) 597 "fill" = true := by kernel_rfl
theorem a_sstroke (P : Params) : attrOk (KL P) 597 "stroke" = true := by kernel_rfl
theorem a_svalues (P : Params) : attrOk (KL P) 597 "values" = true := by kernel_rfl
theorem keep597 (P : Params) : keepIn (KL P) (.ref 597) = true := by kernel_rfl
theorem copied_state {w : World} {sta vd : Addr} {mx cl fi sr : Value} {kvs : List (Str × Value)} : Ct w F_copied_state.f [.ref sta] (fun g => SF g (.ref sta) mx cl fi sr vd ∧ SD w (PySem.strKind prg w) g vd kvs ∧ kvs.length ≤ 1000) []
    (fun v n => ∃ x dx a o t1 t2 t3 t4 t5 k, v = .ref x ∧ n = [(x, instObj 597 dx), (dx, dictOf [E w.params "matrix" t1 mx, E w.params "clips" t2 cl, E w.params "fill" t3 fi, E w.params "stroke" t4 sr, E w.params "values" t5 (.ref a)] k), (a, o)] ∧ o.IsDictOf (PySem.strKind prg w) kvs ∧ (a == sysModules) = false) False 3 := by
  refine ct_def (F := F_copied_state) (binds := [(Str.ofString "state", .ref sta)]) (k := 2) G_copied_state (by kernel_rfl) (by kernel_rfl) (by kernel_rfl) fun A s₀ g L outer base hf rm => ?_
  walk_at "h"
  obtain ⟨⟨sta', hst, s1, s2, s3, s4, s5⟩, hd, hz⟩ := hf
  walk_at "u"
  cases hst
  conv => { arg 4; whnf }
  refine exx_ret (may := False) (P := fun v n => ∃ x dx a o t1 t2 t3 t4 t5 k, v = .ref x ∧ n = [(x, instObj 597 dx), (dx, dictOf [E w.params "matrix" t1 mx, E w.params "clips" t2 cl, E w.params "fill" t3 fi, E w.params "stroke" t4 sr, E w.params "values" t5 (.ref a)] k), (a, o)] ∧ o.IsDictOf (PySem.strKind prg w) kvs ∧ (a == sysModules) = false) (fun s Q Er C k hE => ?_) (fun h => h.elim) fun v n s h C => ⟨_, _, C, h⟩
  refine Call_ ((ev_glob (g_State _)) s _ _ C fun v s₁ hv C₁ => ?_)
  subst hv
  have hA : ∀ pos p1 p2 p3 p4 p5 q1 q2 q3 q4 q5 r1 r2, EvsX ⟨w, A, s₀, g, L, outer, base, FI.env F_copied_state L⟩ [(Str.ofString "state", .ref sta)] [] pos [.Attribute (.Name "state" p1) "matrix" q1, .Attribute (.Name "state" p2) "clips" q2, .Attribute (.Name "state" p3) "fill" q3, .Attribute (.Name "state" p4) "stroke" q4, .Call (.Name "dict" r1) [.Attribute (.Name "state" p5) "values" q5] [] r2]
      (fun vs n => ∃ a o, vs = [mx, cl, fi, sr, .ref a] ∧ n = [(a, o)] ∧ o.IsDictOf (PySem.strKind prg w) kvs ∧ (a == sysModules) = false) False := fun pos p1 p2 p3 p4 p5 q1 q2 q3 q4 q5 r1 r2 s Q Er C k hE => by
    refine (evsx_cons (evx_of (ev_attr_name (by walk_at "nm") (get_at (a_smatrix _) (at_imm s1)))) fun v n hv => evsx_cons (P := fun v n => v = cl ∧ n = []) ?_ fun v n hv => evsx_cons (P := fun v n => v = fi ∧ n = []) ?_ fun v n hv => evsx_cons (P := fun v n => v = sr ∧ n = []) ?_ fun v n hv =>
      evsx_cons (P := fun v n => ∃ a o, v = .ref a ∧ n = [(a, o)] ∧ o.IsDictOf (PySem.strKind prg w) kvs ∧ (a == sysModules) = false) ?_ fun v n hv => evsx_of evs_nil) s Q Er C (fun v n s' hv C' => k v n s' ?_ C') hE
    · obtain ⟨rfl, rfl⟩ := hv; exact evx_of (ev_attr_name (by walk_at "nm") (get_at (a_sclips _) (at_imm s2)))
    · obtain ⟨rfl, rfl⟩ := hv; exact evx_of (ev_attr_name (by walk_at "nm") (get_at (a_sfill _) (at_imm s3)))
    · obtain ⟨rfl, rfl⟩ := hv; exact evx_of (ev_attr_name (by walk_at "nm") (get_at (a_sstroke _) (at_imm s4)))
    · obtain ⟨rfl, rfl⟩ := hv; exact evx_dictof (ev_bltn (b_dict _) (b_dict' _)) (ev_attr_name (by walk_at "nm") (get_at (a_svalues _) (at_imm s5))) (fun s C => hd.keeps fun b o => C.keep) hz
    · walk_at "h"
      obtain ⟨_, _, _, ⟨rfl, rfl⟩, ⟨_, _, _, ⟨rfl, rfl⟩, ⟨_, _, _, ⟨rfl, rfl⟩, ⟨_, _, _, ⟨rfl, rfl⟩, ⟨_, _, _, ⟨a, o, rfl, rfl, h1, h2⟩, ⟨rfl, rfl⟩, rfl⟩, rfl⟩, rfl⟩, rfl⟩, rfl⟩ := hv
      walk_at "u"
      exact ⟨a, o, rfl, rfl, h1, h2⟩
  refine callWith_K C₁.k0 (keep597 _) (hA _ _ _ _ _ _ _ _ _ _ _ _ _ _ _ _ C₁ (fun vs n s₂ hv C₂ => ⟨C₂.k, ?_⟩) (fun h => h.elim))
  walk_at "h"
  obtain ⟨a, o, rfl, rfl, h1, h2⟩ := hv
  walk_at "u"
  refine mk_inst (F := F_State_init) (news := []) (fz := [(a, o)]) (mk_State _) (fun x dx => state_init) (rm.le (by decide)) C₂ (fun x dx s' C' => trivial) fun x dx n s' hP C' => ?_
  walk_at "h"
  obtain ⟨t1, t2, t3, t4, t5, kk, rfl⟩ := hP
  walk_at "u"
  exact k _ _ s' ⟨x, dx, a, o, t1, t2, t3, t4, t5, kk, rfl, rfl, h1, h2⟩ C'
end
noncomputable abbrev FI.envC (F : FI) (x : Str) (L : Addr) : Env := envX (Str.ofString F.qn) (fS F.p) L F.f (.ref F.code) [(x, L + 1)]
section
variable {w : World} {A : Around} {outer : List Env} {base g : Heap} {muts : List (Addr × Obj)} {s : Shared} {F : FI} {vs : List Value} {binds loc : List (Str × Value)} {R : Result → Shared → Prop} {x : Str} {v : Option Value}
theorem enterC (P : Pre w A outer base g muts s) (hd : A.depth < 590) (hu : A.units < 8990) (hk : (KL w.params).lookup F.f = some F.obj) (hcode : codeIn (KL w.params) (.ref F.code) (Str.ofString F.qn) = true)
    (hbind : BindsTo s F.fdt ⟨vs, []⟩ binds) (hone : ∀ n, cellsFrom n (fS F.p).names [] = [(x, n)])
    (hkind : ∀ y ∈ binds, (fS F.p).names.lookup y.1 = some .local ∨ (fS F.p).names.lookup y.1 = some .cell ∧ ((cellsFrom (s.heap.objs.size + 1) (fS F.p).names []).lookup y.1).isSome = true)
    (hl : ∀ L, ∀ q ∈ loc, bindL (F.envC x L).kindOf binds (fun _ => none) q.1 = some q.2) (hv : ∀ L, bindC (F.envC x L).kindOf binds (fun _ => none) x = v)
    (hco : (fS F.p).isCoroutine = false) (hgen : (fS F.p).isGenerator = false) (hkd : (fS F.p).kind = .function)
    (h : ∀ L o s₁, o.data = .cell v → Cx ⟨w, A.deeper (F.envC x L), s, g, L, outer, base, F.envC x L⟩ loc ((L + 1, o) :: muts) s₁ →
      wpAny (model prg w) (A.deeper (F.envC x L)) (execs (fB F.p) (F.envC x L)) (fun fl s' => R (.ok (.ret (match fl with | .ret v => v | _ => .none))) s')
        (fun e s' => wpAny (model prg w) (A.deeper (F.envC x L)) (leaving (F.envC x L) e) (fun _ s'' => R (.error e) s'') (fun e' s'' => R (.error e') s'') s') s₁) :
    codeAny (model prg w) A (.call (.ref F.f) ⟨vs, []⟩) R s := by
  have K := kl_in P.st
  have hf := P.keep _ _ (K _ _ hk)
  refine codeAny_call_function (Nat.lt_trans hd (by decide)) hf rfl hco hgen rfl ((codeRec_of K hcode).keeps P.keep) (hbind _ _ _ _ ?_)
  refine wpAny_newFunctionEnv_cells hkd hkind fun env' he s' X => ?_
  subst he
  refine ⟨(P.st.lim.keeps P.keep).keeps X.toInCall.keep, codeAny_func ?_⟩
  walk_at "h"
  obtain ⟨h₁, tk, rfl, _⟩ := X.done
  walk_at "u"
  have hk₁ := X.toInCall.keep
  have hc := hone (s.heap.objs.size + 1)
  have hm : (x, s.heap.objs.size + 1) ∈ cellsFrom (s.heap.objs.size + 1) (fS F.p).names [] := by rw [hc]; exact .head _
  have hcell := X.cell x (s.heap.objs.size + 1) (by
    show List.lookup x (cellsFrom (s.heap.objs.size + 1) (fS F.p).names []) = _
    rw [hc]; simp [List.lookup])
  have hns := X.toInCall.ns
  have henv : newEnv F.fdt.scope s.heap.objs.size F.fdt.globals (cellsFrom (s.heap.objs.size + 1) F.fdt.scope.names []) (F.fdt.qualname ++ Str.ofString ".<locals>.") (some F.f) F.fdt.code none F.fdt.builtins = F.envC x s.heap.objs.size := by
    show newEnv (fS F.p) _ _ (cellsFrom (s.heap.objs.size + 1) (fS F.p).names []) _ _ _ _ _ = _
    rw [hc]; rfl
  rw [henv] at hns hcell ⊢
  obtain ⟨o, ho, hod⟩ := hcell
  refine h s.heap.objs.size o _ (hod.trans (by rw [hv])) ⟨G.Ok.fn (A := A) P.hA rfl P.hh ?_ ?_ rfl hkd rfl rfl P.bs P.bf P.st, ⟨_, ⟨hns, fun b o e => hk₁ b o (P.keep b o e), P.size⟩, fun q hq => hl _ q hq⟩, fun q hq => ?_, ?_, rfl, rfl, rfl⟩
  · show A.depth + 1 < 600; omega
  · show A.units + 3 < 9000; omega
  · rcases List.mem_cons.mp hq with rfl | hq
    · refine ⟨ho, Nat.ne_of_gt (Nat.lt_succ_self _), ?_⟩
      cases q : g.get? (s.heap.objs.size + 1) with
      | none => rfl
      | some o' => exact absurd (Heap.lt_size (P.keep _ _ q)) (Nat.not_lt.mpr (Nat.le_succ _))
    · exact ⟨hk₁ _ _ (P.mu q hq).1, Nat.ne_of_lt (Heap.lt_size (P.mu q hq).1), (P.mu q hq).2⟩
  · rw [List.map_cons, List.nodup_cons]
    refine ⟨fun q => ?_, P.nd⟩
    obtain ⟨p, hp, e⟩ := List.mem_map.mp q
    have := Heap.lt_size (P.mu p hp).1
    rw [e] at this
    exact absurd this (Nat.not_lt.mpr (Nat.le_succ _))
theorem ct_defC {facts : Heap → Prop} {news : List (Addr × Obj)} {Pst : Value → List (Addr × Obj) → Prop} {may : Prop} {k : Nat} (hk : (KL w.params).lookup F.f = some F.obj) (hcode : codeIn (KL w.params) (.ref F.code) (Str.ofString F.qn) = true)
    (hbind : bindArgs F.fdt ⟨vs, []⟩ = pure binds) (hone : ∀ n, cellsFrom n (fS F.p).names [] = [(x, n)])
    (hkind : ∀ n, ∀ y ∈ binds, (fS F.p).names.lookup y.1 = some .local ∨ (fS F.p).names.lookup y.1 = some .cell ∧ ((cellsFrom n (fS F.p).names []).lookup y.1).isSome = true)
    (hl : ∀ L, ∀ q ∈ loc, bindL (F.envC x L).kindOf binds (fun _ => none) q.1 = some q.2) (hv : ∀ L, bindC (F.envC x L).kindOf binds (fun _ => none) x = v)
    (hco : (fS F.p).isCoroutine = false) (hgen : (fS F.p).isGenerator = false) (hkd : (fS F.p).kind = .function)
    (body : ∀ A s₀ g L outer base o, facts g → Room A k → o.data = .cell v → Ex ⟨w, A, s₀, g, L, outer, base, F.envC x L⟩ loc ((L + 1, o) :: news) (fB F.p) (fun fl s => ∃ l n, Cx ⟨w, A, s₀, g, L, outer, base, F.envC x L⟩ l n s ∧ Pst (match fl with | .ret v => v | _ => .none) n) (fun e s => may ∧ Flies ⟨w, A, s₀, g, L, outer, base, F.envC x L⟩ e s)) :
    Ct w F.f vs facts news Pst may (k + 1) := fun A outer base g s Q E Pr room hf hQ hE => by
  refine wpAny_call (enterC (binds := binds) (loc := loc) (x := x) (v := v) Pr (by have := room.1; omega) (by have := room.2; omega) hk hcode (BindsTo.of_eq hbind) hone (hkind _) hl hv hco hgen hkd fun L o s₁ ho C₁ => ?_)
  refine wpAny_mono (body (A.deeper (F.envC x L)) s g L outer base o hf ⟨?_, ?_⟩ ho s₁ C₁) (fun fl s' h => ?_) (fun e s' h => ?_)
  · have := room.1; show A.depth + 1 + 2 * k < 590; omega
  · have := room.2; show A.units + 3 + 20 * k < 8990; omega
  · walk_at "h"
    obtain ⟨l', n, C', hP⟩ := h
    walk_at "u"
    exact hQ _ n s' hP C'.back_of
  · exact h.2.leave C₁.ok fun s'' T => hE h.1 _ s'' T
end
section
variable {Γ : G} {l l' : List (Str × Value)} {news news' fz : List (Addr × Obj)} {s : Shared}
theorem ev_cell {x : Str} {pos : Pos} {c : Addr} {o : Obj} {v : Value} (hm : (c, o) ∈ news) (hd : o.data = .cell (some v)) (hc : Γ.env.cells.lookup x = some c := by kernel_rfl) (hx : Γ.env.kindOf x = some .cell := by kernel_rfl) (hb : (x == ("__debug__" : Str)) = false := by kernel_rfl) : Ev Γ l news (.Name x pos) (· = v) := fun s Q E C k =>
  wpAny_Name (wpAny_loadName_cell C.ok.kd hx hc ⟨o, C.obj hm, hd⟩ (k _ _ rfl C)) hb
end
section
variable {w : World} {D : PD} {V : PV}
theorem k872 (P : Params) : (KL P).lookup F_form_numbers.f = some F_form_numbers.obj := by kernel_rfl
theorem c872 (P : Params) : codeIn (KL P) (.ref F_form_numbers.code) (Str.ofString F_form_numbers.qn) = true := by kernel_rfl
theorem form_numbers {hd : Addr} {key : Str} {t tc : Tok} {cnt : Int} {hk : List (Str × Value)} : Ct w F_form_numbers.f [.ref D.pa, .ref hd, .str key t, .int cnt tc] (fun g => PF g D ∧ SD w (PySem.strKind prg w) g hd hk ∧ valueAt hk key = none) [pdict w.params D V] (fun v n => v = .none ∧ n = [pdict w.params D V]) False 4 := by
  refine ct_defC (F := F_form_numbers) (x := "painter") (v := some (.ref D.pa)) (binds := [(Str.ofString "painter", .ref D.pa), (Str.ofString "head", .ref hd), (Str.ofString "key", .str key t), (Str.ofString "count", .int cnt tc)]) (loc := [(Str.ofString "head", .ref hd), (Str.ofString "key", .str key t), (Str.ofString "count", .int cnt tc)]) (k := 3)
    (k872 _) (c872 _) (by kernel_rfl) (fun n => by rfl) ?_ ?_ ?_ (by kernel_rfl) (by kernel_rfl) (by kernel_rfl) fun A s₀ g L outer base o hf rm ho => ?_
  · intro n y hy
    simp only [List.mem_cons, List.not_mem_nil, or_false] at hy
    rcases hy with rfl | rfl | rfl | rfl
    · exact .inr ⟨by kernel_rfl, by rfl⟩
    · exact .inl (by kernel_rfl)
    · exact .inl (by kernel_rfl)
    · exact .inl (by kernel_rfl)
  · intro L q hq
    simp only [List.mem_cons, List.not_mem_nil, or_false] at hq
    rcases hq with rfl | rfl | rfl <;> kernel_rfl
  · intro L; kernel_rfl
  obtain ⟨hf, h1, h2⟩ := hf
  conv => { arg 4; whnf }
  refine ex_assign (P := (· = Value.none)) (ev_meth (x := D.sa) G_Lookup_get (m_get _) (ev_attr_name (ev_cell (by walk_at "mem") ho) (pa_shelf (V := V) hf (by walk_at "mem"))) (fun s C => hf.shelf.get.keeps fun b o => C.keep)
    (evs_cons (by walk_at "nm") (evs_cons (by walk_at "nm") evs_nil)) (fun vs hv => ?_) (by walk_at "mc")) (by kernel_rfl) (by walk_at "sub") (by kernel_rfl) fun v hv => ?_
  · walk_at "h"
    obtain ⟨v, rfl, u, ⟨v', rfl, u', rfl, rfl⟩, rfl⟩ := hv
    walk_at "u"
    exact CtP.run0 (lget (tb := D.tb) (kvs := hk) (r := .none)) (rm.le (by decide)) ⟨hf.shelf, h1, by rw [h2]; exact .plain .none⟩ fun h h' hf k => ⟨hf.1.keeps k, hf.2.1.keeps k, hf.2.2.keeps k⟩
  subst hv
  refine ex_if_t (ist_cmp (by walk_at "nm") ev_none (cmp_is_none (by rfl))) ?_
  exact ex_ret ev_none fun v s hv C => ⟨_, _, C.drop (List.sublist_cons_self _ _), hv, rfl⟩
end
section
variable {Γ : G} {l l' : List (Str × Value)} {news news' fz : List (Addr × Obj)} {s : Shared} {rest : List Stmt} {Q : Flow → Shared → Prop} {E : Value → Shared → Prop}
theorem ex_attr {o e : Expr} {ap pos : Pos} {x : Addr} {name : Str} {P : Value → List (Addr × Obj) → Prop} {may : Prop} (he : EvX Γ l news e P may) (hE : may → ∀ e s', Flies Γ e s' → E e s') (ho : ∀ v n, P v n → Ev Γ l n o (· = .ref x))
    (k : ∀ v n, P v n → ∀ s, Cx Γ l n s → wpAny (model prg Γ.w) Γ.A (setAttr (.ref x) name v) (fun _ s' => wpAny (model prg Γ.w) Γ.A (execs rest Γ.env) Q E s') E s) (hs : swapsWith e (some (.Attribute o name ap)) pos.line Γ.env = pure false := by rfl) : Ex Γ l news (.Assign [.Attribute o name ap] e pos :: rest) Q E := fun s C =>
  wpAny_execs_cons (plainObj_wpAny_Assign_Attribute (he s _ _ C (fun v n₁ s₁ hv C₁ => ho v n₁ hv s₁ _ _ C₁ fun ov s₂ hov C₂ => by
    subst hov
    exact k v n₁ hv s₂ C₂) hE) hs)
theorem method_own {x C : Addr} {name : Str} {v : Value} {pl : Sem Bool} {Q : Value × List Value → Shared → Prop} {E : Value → Shared → Prop} (ok : attrOk (KL Γ.w.params) C name = true) (hn : findIn (KL Γ.w.params) (.ref C) name = some none) (h : ∀ s, Cx Γ l news s → At s.heap x C name v) (C₀ : Cx Γ l news s)
    (k : ∀ s', Cx Γ l news s' → Q (v, []) s') : wpAny (model prg Γ.w) Γ.A (getMethod (.ref x) name pl) Q E s := by
  walk_at "h"
  obtain ⟨d, es, i, h1, h2, h3, h4⟩ := h s C₀
  walk_at "u"
  have ok' := ok
  unfold attrOk at ok'
  simp only [Bool.and_eq_true] at ok'
  have hp := plainGet_of ok'.1.1
  have I : InstAt s.heap x (instObj C d) C (some (dictOf es i)) := ⟨h1, rfl, rfl, h2⟩
  have hcan := PySem.F.canon_object_ga
  unfold getMethod specialOf
  refine wpAny_bind (wpAny_bind (I.type.here ((looks_findIn C₀.k hp.1).here ?_)))
  dsimp only
  rw [hcan, if_neg (by decide)]
  refine wpAny_bind (wpAny_bind (I.type.here ((looks_findIn C₀.k hp.2).here ?_)))
  refine wpAny_bind (wpAny_bind (I.type.here ((looks_findIn C₀.k hn).here ?_)))
  exact wpAny_bind ((get_at ok h) s _ _ C₀ fun u s' hu C' => by subst hu; exact wpAny_pure (k s' C'))
end
section
variable {w : World} {D : PD} {V : PV}
theorem form_numbersP {hd : Addr} {key : Str} {t tc : Tok} {cnt : Int} {hk : List (Str × Value)} : CtP w F_form_numbers.f [.ref D.pa, .ref hd, .str key t, .int cnt tc] (fun g => PF g D ∧ SD w (PySem.strKind prg w) g hd hk ∧ valueAt hk key = none) [pdict w.params D V] (· = .none) 4 :=
  Ct.mono form_numbers (fun _ h => h) (fun v n h => ⟨h.2, h.1⟩) id (Nat.le_refl _)
theorem enter_form {hd : Addr} {hk : List (Str × Value)} {own : Option Addr} : Ct w F_enter_form.f [.ref D.pa, .ref hd] (fun g => PF g D ∧ SD w (PySem.strKind prg w) g hd hk ∧ valueAt hk "Matrix" = none ∧ valueAt hk "BBox" = none ∧ valueAt hk "Resources" = own.map .ref ∧ ∀ a, own = some a → KitAt a "dict" g)
    (core w.params D V) (fun v n => v = .none ∧ n = core w.params D { V with re := (own.map Value.ref).getD V.re }) False 5 := by
  refine ct_def (F := F_enter_form) (binds := [(Str.ofString "painter", .ref D.pa), (Str.ofString "head", .ref hd)]) (k := 4) G_enter_form (by kernel_rfl) (by kernel_rfl) (by kernel_rfl) fun A s₀ g L outer base hf rm => ?_
  walk_at "h"
  obtain ⟨hf, h1, h2, h3, h4, h5⟩ := hf
  walk_at "u"
  conv => { arg 4; whnf }
  refine ex_assign (P := (· = Value.none)) (ev_call (k872 _) rfl (ev_glob (g_form_numbers _)) (evs_cons (by walk_at "nm") (evs_cons (by walk_at "nm") (evs_cons ev_str (evs_cons ev_int evs_nil)))) fun vs hv => ?_) (by kernel_rfl) (by walk_at "sub") (by kernel_rfl) fun v hv => ?_
  · walk_at "h"
    obtain ⟨_, rfl, _, ⟨_, rfl, _, ⟨_, ⟨t, rfl⟩, _, ⟨_, ⟨t', rfl⟩, _, rfl, rfl⟩, rfl⟩, rfl⟩, rfl⟩ := hv
    walk_at "u"
    exact CtP.run1 (news := [pdict w.params D V]) (fz := _) form_numbersP (rm.le (by decide)) ⟨hf, h1, h2⟩ fun h h' hf k => ⟨hf.1.keeps k, hf.2.1.keeps k, hf.2.2⟩
  subst hv
  refine ex_if_f (ist_cmp (by walk_at "nm") ev_none (cmp_isnot_none (by rfl))) ?_
  refine ex_assign (P := (· = Value.none)) (ev_call (k872 _) rfl (ev_glob (g_form_numbers _)) (evs_cons (by walk_at "nm") (evs_cons (by walk_at "nm") (evs_cons ev_str (evs_cons ev_int evs_nil)))) fun vs hv => ?_) (by kernel_rfl) (by walk_at "sub") (by kernel_rfl) fun v hv => ?_
  · walk_at "h"
    obtain ⟨_, rfl, _, ⟨_, rfl, _, ⟨_, ⟨t, rfl⟩, _, ⟨_, ⟨t', rfl⟩, _, rfl, rfl⟩, rfl⟩, rfl⟩, rfl⟩ := hv
    walk_at "u"
    exact CtP.run1 (news := [pdict w.params D V]) (fz := _) form_numbersP (rm.le (by decide)) ⟨hf, h1, h3⟩ fun h h' hf k => ⟨hf.1.keeps k, hf.2.1.keeps k, hf.2.2⟩
  subst hv
  refine ex_if_f (ist_cmp (by walk_at "nm") ev_none (cmp_isnot_none (by rfl))) ?_
  obtain ⟨r, hr⟩ : ∃ r, r = (own.map Value.ref).getD .none := ⟨_, rfl⟩
  refine ex_assign (P := (· = r)) (ev_meth (x := D.sa) G_Lookup_get (m_get _) (ev_attr_name (by walk_at "nm") (pa_shelf (V := V) hf (by walk_at "mem"))) (fun s C => hf.shelf.get.keeps fun b o => C.keep)
    (evs_cons (by walk_at "nm") (evs_cons ev_str evs_nil)) (fun vs hv => ?_) (by walk_at "mc")) (by kernel_rfl) (by walk_at "sub") (by kernel_rfl) fun v hv => ?_
  · walk_at "h"
    obtain ⟨_, rfl, _, ⟨_, ⟨t, rfl⟩, _, rfl, rfl⟩, rfl⟩ := hv
    walk_at "u"
    refine CtP.run0 (lget (tb := D.tb) (kvs := hk) (r := r)) (rm.le (by decide)) ⟨hf.shelf, h1, ?_⟩ fun h h' hf k => ⟨hf.1.keeps k, hf.2.1.keeps k, hf.2.2.keeps k⟩
    rw [h4, hr]
    cases own with
    | none => exact .plain .none
    | some a => exact .plain (.dict (h5 a rfl))
  subst hv
  cases own with
  | none =>
    replace hr : v = .none := hr
    subst hr
    refine ex_if_f (ist_bool (ev_isi (ev_bltn (b_isinstance _) (b_isinstance' _)) (by walk_at "nm") (ev_bltn (b_dict _) (b_dict' _)) (isi_none (by kernel_rfl)))) ?_
    exact ex_nil fun s C => ⟨_, _, C, rfl, rfl⟩
  | some a =>
    replace hr : v = .ref a := hr
    subst hr
    refine ex_if_t (ist_bool (ev_isi (ev_bltn (b_isinstance _) (b_isinstance' _)) (by walk_at "nm") (ev_bltn (b_dict _) (b_dict' _)) (isi_dict (fun s C => KitAt.keeps (h5 a rfl) fun b o => C.keep) (by kernel_rfl)))) ?_
    refine ex_attr (P := fun v n => v = .ref a ∧ n = core w.params D V) (may := False) (evx_of (by walk_at "nm")) (fun h => h.elim) (fun v n h => by obtain ⟨rfl, rfl⟩ := h; walk_at "nm") fun v n h s C => ?_
    obtain ⟨rfl, rfl⟩ := h
    refine pset_resources (fz := []) hf (by rw [List.append_nil]; exact C) fun s' C' => ?_
    rw [List.append_nil] at C'
    exact wpAny_execs_nil ⟨_, _, C', rfl, rfl⟩
end
noncomputable def lamE : Option (Arguments × Expr × Scope × Pos) := match (fB [108] : List Stmt)[10]? with
  | some (Stmt.Assign _ (Expr.Call _ [_, _, Expr.Lambda a b s p] _ _) _) => some (a, b, s, p)
  | _ => none
noncomputable def lamA : Arguments := match lamE with | some x => x.1 | none => ⟨[], [], none, [], [], none, []⟩
noncomputable def lamB : Expr := match lamE with | some x => x.2.1 | none => .Constant .none 0 ⟨0, 0, 0, 0⟩
noncomputable def lamS : Scope := match lamE with | some x => x.2.2.1 | none => fS [108]
noncomputable abbrev lamQ : Str := Str.ofString "law.<locals>.<lambda>"
theorem lamS_co : lamS.isCoroutine = false := by kernel_rfl
theorem lamS_ge : lamS.isGenerator = false := by kernel_rfl
theorem lamS_kd : lamS.kind = .function := by kernel_rfl
theorem lamS_nc : (lamS.names.all fun x => x.2 != .cell) = true := by kernel_rfl
section
variable {w : World}
theorem ct_lam {f c' : Addr} {qual nm : Str} {params : Arguments} {body : Expr} {scope : Scope} {clos : List (Str × Addr)} {pm ctv : Value} {vs : List Value} {binds : List (Str × Value)} {facts : Heap → Prop} {news : List (Addr × Obj)} {P : Value → List (Addr × Obj) → Prop} {k : Nat}
    (hfo : ∀ g, facts g → g.get? f = some (kla_obj nm qual params body scope clos pm c' ctv) ∧ g.CodeRec (.ref c') qual) (hbind : bindArgs (kla_fn nm qual params body scope clos pm (.ref c') ctv) ⟨vs, []⟩ = pure binds)
    (hloc : (binds.all fun x => decide (scope.names.lookup x.1 = some .local)) = true) (hnc : (scope.names.all fun x => x.2 != .cell) = true) (hco : scope.isCoroutine = false) (hgen : scope.isGenerator = false) (hkd : scope.kind = .function) (hdup : (binds.map (·.1)).Nodup)
    (hb : ∀ A s₀ g L outer base, facts g → Room A k → EvX ⟨w, A, s₀, g, L, outer, base, envX qual scope L f (.ref c') clos⟩ binds news body P False) :
    Ct w f vs facts news P False (k + 1) := fun A outer base g s Q E Pr room hf hQ hE => by
  obtain ⟨h1, h2⟩ := hfo g hf
  have hd := room.1
  have hu := room.2
  have hdup' : ∀ q ∈ binds, binds.reverse.lookup q.1 = some q.2 := fun q hq => lk_mem (by rw [List.map_reverse]; unfold List.Nodup; rw [List.pairwise_reverse]; exact hdup.imp Ne.symm) (List.mem_reverse.mpr hq)
  refine wpAny_call (kla_callFunE (by show A.depth < 1000; omega) (Pr.keep _ _ h1) rfl hco hgen rfl (h2.keeps Pr.keep) ?_)
  rw [hbind]
  refine wpAny_pure (wpAny_newFunctionEnv (fun x hx => by have := List.all_eq_true.mp hnc x hx; simpa using this) (locs hloc) (fun h₁ hns hsb => ⟨(Pr.st.lim.keeps Pr.keep).fresh _ hsb, ?_⟩) hkd)
  show codeAny _ _ (.expr body (envX qual scope s.heap.objs.size f (.ref c') clos)) _ _
  have hk₁ : ∀ b o, s.heap.get? b = some o → h₁.get? b = some o := fun b o e => hsb.extBut b o (Nat.ne_of_lt (Heap.lt_size e)) (Heap.get?_push_of_some _ e)
  have C₁ : Cx ⟨w, A.deeper (envX qual scope s.heap.objs.size f (.ref c') clos), s, g, s.heap.objs.size, outer, base, envX qual scope s.heap.objs.size f (.ref c') clos⟩ binds news { s with heap := h₁, toks := s.toks + binds.length } := by
    refine ⟨G.Ok.fn (A := A) Pr.hA rfl Pr.hh ?_ ?_ rfl hkd rfl rfl Pr.bs Pr.bf Pr.st, ⟨_, ⟨hns, fun b o e => hk₁ b o (Pr.keep b o e), Pr.size⟩, fun q hq => hdup' q hq⟩, fun q hq => ⟨hk₁ _ _ (Pr.mu q hq).1, Nat.ne_of_lt (Heap.lt_size (Pr.mu q hq).1), (Pr.mu q hq).2⟩, Pr.nd, rfl, rfl, rfl⟩
    · show A.depth + 1 < 600; omega
    · show A.units + 3 < 9000; omega
  refine kla_codeExpr (hb (A.deeper (envX qual scope s.heap.objs.size f (.ref c') clos)) s g s.heap.objs.size outer base hf ⟨?_, ?_⟩ _ _ _ C₁ (fun v n s' hP C' => ?_) (fun m => m.elim))
  · show A.depth + 1 + 2 * k < 590; omega
  · show A.units + 3 + 20 * k < 8990; omega
  · exact hQ v n s' hP C'.back_of
end
section
variable {Γ : G} {l l' : List (Str × Value)} {news news' fz : List (Addr × Obj)} {s : Shared}
theorem ev_free {x : Str} {pos : Pos} {c : Addr} {v : Value} (h : ∀ s, Cx Γ l news s → s.heap.IsCell c (some v)) (hc : Γ.env.cells.lookup x = some c) (hx : Γ.env.kindOf x = some .free) (hb : (x == ("__debug__" : Str)) = false) (hn : (x == ("__classdict__" : Str)) = false) : Ev Γ l news (.Name x pos) (· = v) := fun s Q E C k =>
  wpAny_Name (wpAny_loadName_free C.ok.kd hx hc (h s C) (k _ _ rfl C) hn) hb
theorem sub_bytes {e i : Expr} {bs : List UInt8} {t : Tok} {k : Nat} {x : UInt8} (hk : bs[k]? = some x) (hs : bs.length ≤ 1000)
    (hs' : ∀ u, subscripted i false (.bytes bs.toArray t) (.int (k : Int) u) = operate [.bytes bs.toArray t, .int (k : Int) u] (getItem (.bytes bs.toArray t) (.int (k : Int) u)) := by intro _; with_unfolding_all rfl) : ∀ o j, o = .bytes bs.toArray t → IsI (k : Int) j → Run Γ l news (subscriptTail e i o j) (IsI (x.toNat : Int)) := by
  rintro _ _ rfl ⟨u, rfl⟩
  have hlt : k < bs.length := (List.getElem?_eq_some_iff.mp hk).1
  exact fun s Q E C q => tail_any (typeIs_bytes s _ t) FB.slot_bytes_getitem.lookup (getItem_bytes (by omega) (by omega) (by omega) (q _ _ ⟨_, by
    have : bs.getD ((k : Int).toNat) 0 = x := by rw [Int.toNat_natCast, List.getD_eq_getElem?_getD, hk]; rfl
    rw [this]⟩ (C.tok _))) (hs' u)
end
def OpnF (w : World) (hl : Nat → Addr) (W : WorldD) (op : Value) (g : Heap) : Prop := ∃ f c' cc hd kvs pm ctv, op = .ref f ∧ g.get? f = some (kla_obj "<lambda>" lamQ lamA lamB lamS [(Str.ofString "held", cc)] pm c' ctv) ∧ g.CodeRec (.ref c') lamQ ∧ g.IsCell cc (some (.ref hd)) ∧ SD w (PySem.intKind prg w) g hd kvs ∧
  ∀ k F, W k = some F → valueAt kvs (k : Int) = some (.ref (hl k))
theorem isCell_keeps {h h' : Heap} {c : Addr} {v : Option Value} (u : h.IsCell c v) (k : ∀ b o, h.get? b = some o → h'.get? b = some o) : h'.IsCell c v := let ⟨o, a, b⟩ := u; ⟨o, k _ _ a, b⟩
theorem OpnF.keeps {w : World} {hl : Nat → Addr} {W : WorldD} {op : Value} {h h' : Heap} (u : OpnF w hl W op h) (k : ∀ b o, h.get? b = some o → h'.get? b = some o) : OpnF w hl W op h' := by
  walk_at "h"
  obtain ⟨f, c', cc, hd, kvs, pm, ctv, a1, a2, a3, a4, a5, a6⟩ := u
  walk_at "u"
  exact ⟨f, c', cc, hd, kvs, pm, ctv, a1, k _ _ a2, a3.keeps k, isCell_keeps a4 k, a5.keeps k, a6⟩
theorem OpnF.func {w : World} {hl : Nat → Addr} {W : WorldD} {op : Value} {h : Heap} (u : OpnF w hl W op h) : ∃ f o fdt, op = .ref f ∧ h.get? f = some o ∧ o.data = .func fdt := by
  walk_at "h"
  obtain ⟨f, c', cc, hd, kvs, pm, ctv, a1, a2, _⟩ := u
  walk_at "u"
  exact ⟨f, _, _, a1, a2, rfl⟩
theorem opener_ct {w : World} {hl : Nat → Addr} {W : WorldD} {f : Addr} {sa : Value} {st : Addr} {k : Nat} {F : FormD} {t2 : Tok} (hW : W k = some F) (hk : k ≤ 200) : Ct w f [sa, .ref st] (fun g => OpnF w hl W (.ref f) g ∧ At g st 247 "octets" (.bytes #[UInt8.ofNat k] t2)) [] (fun v n => v = .ref (hl k) ∧ n = []) False 1 := fun A outer base g s Q E Pr room hf hQ hE => by
  walk_at "h"
  obtain ⟨⟨f', c', cc, hd, kvs, pm, ctv, a1, a2, a3, a4, a5, a6⟩, ho⟩ := hf
  walk_at "u"
  cases a1
  refine ct_lam (facts := fun g => g.get? f = some (kla_obj "<lambda>" lamQ lamA lamB lamS [(Str.ofString "held", cc)] pm c' ctv) ∧ g.CodeRec (.ref c') lamQ ∧ g.IsCell cc (some (.ref hd)) ∧ SD w (PySem.intKind prg w) g hd kvs ∧ At g st 247 "octets" (.bytes #[UInt8.ofNat k] t2))
    (binds := [(Str.ofString "lookup", sa), (Str.ofString "stream", .ref st)]) (k := 0) (fun g h => ⟨h.1, h.2.1⟩) (by kernel_rfl) (by kernel_rfl) lamS_nc lamS_co lamS_ge lamS_kd (of_decide_eq_true (by kernel_rfl)) (fun A s₀ g L outer base hf rm => ?_) A outer base g s Q E Pr room ⟨a2, a3, a4, a5, ho⟩ hQ hE
  walk_at "h"
  obtain ⟨-, -, b4, b5, b6⟩ := hf
  walk_at "u"
  conv => { arg 4; whnf }
  have hb : (UInt8.ofNat k).toNat = k := by simp; omega
  refine EvX.mono (evx_of (ev_sub (ev_free (v := .ref hd) (fun s C => isCell_keeps b4 fun b o => C.keep) (by kernel_rfl) (by kernel_rfl) (by kernel_rfl) (by kernel_rfl)) (ev_sub (ev_attr_name (by walk_at "nm") (get_at (a_soctets _) (at_imm b6))) (ev_int (x := 0)) (sub_bytes (bs := [UInt8.ofNat k]) (k := 0) rfl (by simp)))
    (sub_dict (knd := PySem.intKind prg w) (k := (k : Int)) (x := .ref (hl k)) (fun s C => b5.keeps fun b o => C.keep) (fun j hj => intIs (by rw [hb] at hj; exact hj)) (a6 k F hW)))) fun v n h => h
section
variable {Γ : G} {l l' : List (Str × Value)} {news news' fz : List (Addr × Obj)} {s : Shared} {rest : List Stmt} {Q : Flow → Shared → Prop} {E : Value → Shared → Prop}
theorem EvX.perm {e : Expr} {P P' : Value → List (Addr × Obj) → Prop} {may : Prop} (h : EvX Γ l news e P may) (k : ∀ v n, P v n → ∃ n', n.Perm n' ∧ P' v n') : EvX Γ l news e P' may := fun s Q E C q hE =>
  h s Q E C (fun v n s' hp C' => let ⟨n', h1, h2⟩ := k v n hp; q v n' s' h2 (C'.perm h1)) hE
theorem Ex.drop {b : List Stmt} (h : Ex Γ l news' b Q E) (sub : news'.Sublist news) : Ex Γ l news b Q E := fun s C => h s (C.drop sub)
theorem Ex.perm {b : List Stmt} (h : Ex Γ l news' b Q E) (p : news.Perm news') : Ex Γ l news b Q E := fun s C => h s (C.perm p)
theorem exx_any {e : Expr} {pos : Pos} {P : Value → List (Addr × Obj) → Prop} {may : Prop} (h : EvX Γ l news e P may) (hE : may → ∀ e s', Flies Γ e s' → E e s') (k : ∀ v n, P v n → Ex Γ l n rest Q E)
    (hi : interactive Γ.env = false := by rfl) (hsw : swapsWith e none pos.line Γ.env = pure false := by rfl) : Ex Γ l news (.Expr e pos :: rest) Q E := fun s C =>
  wpAny_execs_cons (wpAny_Expr_any (h s _ E C (fun v n s' hv C' => k v n hv s' C') hE) hi hsw)
theorem evx_pop {o : Expr} {apos pos : Pos} {D : Addr} {its its' : Array Value} {n : Nat} {y : Value} {may : Prop} {upd : List (Addr × Obj)} (ho : Ev Γ l news o (· = .ref D)) (hmem : (D, listOf its n) ∈ news) (hy : its[its.size - 1]? = some y) (hp : its.pop = its')
    (R : Rep D (listOf its n) (listOf its' (n + 1)) news upd) (hsz : its.size ≤ 100000) (hm : MC Γ o "pop" [] apos pos) : EvX Γ l news (.Call (.Attribute o "pop" apos) [] [] pos) (fun v n' => v = y ∧ n' = upd) may := fun s Q E C k hE =>
  hm.elim fun pl hm => hm _ _ _ (ho s _ E C fun v s₁ hv C₁ => by
    subst hv hp
    refine Copied.getMethod_pop_at (C₁.obj hmem) rfl rfl ?_
    refine callWith_builtin rfl (evalArgs_nil3 ?_)
    exact Copied.pop_at (C₁.obj hmem) hy (fun h' hs ho' => k _ _ _ ⟨rfl, rfl⟩ (C₁.same (n := s₁.toks) R hs ho')) (Nat.le_trans hsz (by decide)))
theorem ex_unpack4 {x1 x2 x3 x4 : Str} {p1 p2 p3 p4 tp pos : Pos} {kk : Nat} {e : Expr} {P : Value → Value → Value → Value → List (Addr × Obj) → Prop} {may : Prop}
    (h : EvX Γ l news e (fun v n => ∃ t a b c d, v = .ref t ∧ (∀ s, Cx Γ l n s → IsTup s.heap t #[a, b, c, d]) ∧ P a b c d n) may) (hE : may → ∀ e s', Flies Γ e s' → E e s')
    (h1 : Γ.env.kindOf x1 = some .local) (h2 : Γ.env.kindOf x2 = some .local) (h3 : Γ.env.kindOf x3 = some .local) (h4 : Γ.env.kindOf x4 = some .local) (hl : ∀ p ∈ l', p ∈ l)
    (n1 : (l'.all fun p => !(p.1 == x1)) = true) (n2 : (l'.all fun p => !(p.1 == x2)) = true) (n3 : (l'.all fun p => !(p.1 == x3)) = true) (n4 : (l'.all fun p => !(p.1 == x4)) = true) (hd : ((x1 == x2) || (x1 == x3) || (x1 == x4) || (x2 == x3) || (x2 == x4) || (x3 == x4)) = false)
    (k : ∀ a b c d n, P a b c d n → Ex Γ ((x4, d) :: (x3, c) :: (x2, b) :: (x1, a) :: l') n rest Q E)
    (hs : swapsWithSole [.Tuple [.Name x1 p1, .Name x2 p2, .Name x3 p3, .Name x4 p4] kk tp] e pos.line Γ.env = pure false := by rfl) (hw : swappedStores [.Tuple [.Name x1 p1, .Name x2 p2, .Name x3 p3, .Name x4 p4] kk tp] e Γ.env = pure none := by rfl)
    (ha : (assignEach [.Name x1 p1, .Name x2 p2, .Name x3 p3, .Name x4 p4] Γ.env) = [(false, assign (.Name x1 p1) Γ.env), (false, assign (.Name x2 p2) Γ.env), (false, assign (.Name x3 p3) Γ.env), (false, assign (.Name x4 p4) Γ.env)] := by rfl) (hlo : Γ.env.locals = Γ.L := by rfl) :
    Ex Γ l news (.Assign [.Tuple [.Name x1 p1, .Name x2 p2, .Name x3 p3, .Name x4 p4] kk tp] e pos :: rest) Q E := fun s C =>
  wpAny_execs_cons (Assign_Tuple (h s _ E C (fun v n s₁ hv C₁ => by
    walk_at "h"
    obtain ⟨t, a, b, c, d, rfl, ht, hP⟩ := hv
    walk_at "u"
    obtain ⟨m, F, hm⟩ := C₁.fr
    simp only [Bool.or_eq_false_iff] at hd
    walk_at "h"
    obtain ⟨⟨⟨⟨⟨d12, d13⟩, d14⟩, d23⟩, d24⟩, d34⟩ := hd
    walk_at "u"
    refine unpackN_ F C₁.nw (ht s₁ C₁) C.ok.hh (by rw [ha]; rfl) (by rw [ha]; rfl) fun h' F' N' => ?_
    have C₂ : Cx Γ l n { s₁ with heap := h' } := ⟨C₁.ok, ⟨m, F', hm⟩, N', C₁.nd, C₁.gens, C₁.drawn, C₁.os⟩
    rw [ha]
    refine assignInOrder_cons (assign_Name (st_local C₂ h1 hl n1 (fun s₃ C₃ => ?_) hlo))
    refine assignInOrder_cons (assign_Name (st_local C₃ h2 (fun _ h => h) (by rw [List.all_cons, n2, d12]; rfl) (fun s₄ C₄ => ?_) hlo))
    refine assignInOrder_cons (assign_Name (st_local C₄ h3 (fun _ h => h) (by rw [List.all_cons, List.all_cons, n3, d13, d23]; rfl) (fun s₅ C₅ => ?_) hlo))
    refine assignInOrder_cons (assign_Name (st_local C₅ h4 (fun _ h => h) (by rw [List.all_cons, List.all_cons, List.all_cons, n4, d14, d24, d34]; rfl) (fun s₆ C₆ => assignInOrder_nil (k a b c d n hP s₆ C₆)) hlo))) hE) hs hw)
theorem assign_Attr {o : Expr} {attr : Str} {pos : Pos} {v : Value} {x : Addr} {Q : Unit → Shared → Prop} (C : Cx Γ l news s) (ho : Ev Γ l news o (· = .ref x)) (h : ∀ s', Cx Γ l news s' → wpAny (model prg Γ.w) Γ.A (setAttr (.ref x) attr v) Q E s') :
    wpAny (model prg Γ.w) Γ.A (assign (.Attribute o attr pos) Γ.env v) Q E s := by
  rw [assign_Attribute]
  exact wpAny_bind (wpAny_holding (ho s _ E C fun ov s₁ hov C₁ => by subst hov; exact wpAny_bind (wpAny_standAt (wpAny_bind (wpAny_holding (wpAny_mono (h s₁ C₁) (fun u s₂ h₂ => wpAny_release' h₂) fun _ _ z => z))))))
theorem evx_upto {e i : Expr} {sp pos : Pos} {t : Addr} {items : Array Value} {b : Nat} {may : Prop} (he : Ev Γ l news e (· = .ref t)) (hi : Ev Γ l news i (IsI (b : Int))) (h : ∀ s, Cx Γ l news s → s.heap.IsList t items) (hsz : items.size ≤ 100000)
    (hs : ∀ r, subscripted (.Slice none (some i) none sp) false (.ref t) (.ref r) = operate [.ref r, .ref t] (getItem (.ref t) (.ref r)) := by intro _; with_unfolding_all rfl) :
    EvX Γ l news (.Subscript e (.Slice none (some i) none sp) pos) (fun v n => ∃ a, v = .ref a ∧ n = (a, listOf (items.toList.take b).toArray 0) :: news) may := fun s Q E C k hE =>
  Subscript_ (he s _ E C fun o s₁ ho C₁ => by
    subst ho
    refine wpAny_Slice ?_
    rw [evalPart_none, evalPart_some]
    refine wpAny_pure (hi s₁ _ E C₁ fun u s₂ hu C₂ => wpAny_pure ?_)
    obtain ⟨tk, rfl⟩ := hu
    refine PyProof.Rows.tail_any (Heap.IsList.typeIs (s := { s₂ with heap := s₂.heap.push { cls := .type "slice", data := .fields #[.none, .int (b : Int) tk, .none] } }) ((h s₂ C₂).push _)) list_getitem_lookup
      (wpAny_getItem_list_slice (lo := none) (hi := some (b : Int)) ((h s₂ C₂).push _) (Heap.IsSliceOf.new ..) .none (.int _ _) .none (by simp) ?_ (Nat.le_trans hsz (by decide))) (hs _)
    show Q (.ref (s₂.heap.push _).objs.size) _
    rw [slicePick_upto' items b, Heap.size_push]
    have C₃ := (C₂.alloc { cls := .type "slice", data := .fields #[.none, .int (b : Int) tk, .none] } rfl).alloc (listOf (items.toList.take b).toArray 0) rfl
    have C₄ := C₃.drop (news' := (s₂.heap.objs.size + 1, listOf (items.toList.take b).toArray 0) :: news) (by rw [Heap.size_push]; exact List.Sublist.cons₂ _ (List.sublist_cons_self _ _))
    exact k _ _ _ ⟨_, rfl, rfl⟩ C₄)
end
noncomputable def genOf (W : WorldD) (k : Nat) : Int := ((W k).map (·.gen)).getD 0
noncomputable abbrev markD (W : WorldD) (k : Nat) : PyData := .tuple [.int (k : Int), .int (genOf W k)]
theorem mark_reads {h : Heap} {W : WorldD} {a : Addr} {k : Nat} {F : FormD} {t t' : Tok} (hW : W k = some F) (ht : IsTup h a #[.int (k : Int) t, .int F.gen t']) : ∃ bs, Reads h (.ref a) (markD W k) bs := by
  walk_at "h"
  obtain ⟨o, h1, h2, n, h3⟩ := ht
  walk_at "u"
  have : genOf W k = F.gen := by unfold genOf; rw [hW]; rfl
  unfold markD
  rw [this]
  exact ⟨_, .tuple h1 h2 h3 (.cons (.int _ _) (.cons (.int _ _) .nil))⟩
theorem forms_reads {h : Heap} {W : WorldD} : ∀ {as : List Addr} {ab : List Nat}, as.length = ab.length → (∀ (i : Nat) a k, as[i]? = some a → ab[i]? = some k → ∃ t t' F, W k = some F ∧ IsTup h a #[.int (k : Int) t, .int F.gen t']) → ∃ bs, ReadsAll h (as.map .ref) (ab.map (markD W)) bs
  | [], [], _, _ => ⟨_, .nil⟩
  | a :: as, k :: ab, hl, hf => by
    obtain ⟨bs, hb⟩ := forms_reads (as := as) (ab := ab) (by simpa using hl) fun i a k h1 h2 => hf (i + 1) a k h1 h2
    walk_at "h"
    obtain ⟨t, t', F, h1, h2⟩ := hf 0 a k rfl rfl
    walk_at "u"
    obtain ⟨cs, hc⟩ := mark_reads h1 h2
    exact ⟨_, .cons hc hb⟩
  | [], _ :: _, hl, _ => by simp at hl
  | _ :: _, [], hl, _ => by simp at hl
theorem marks_lay (W : WorldD) : ∀ ab : List Nat, PyData.canLayAll0 (ab.map (markD W)) = true
  | [] => by simp [PyData.canLayAll0]
  | k :: ab => by simp [PyData.canLayAll0, PyData.canLay0, marks_lay W ab]
theorem marks_any (W : WorldD) (k : Nat) : ∀ ab : List Nat, ((ab.map (markD W)).any fun y => PyData.eqv y (markD W k)) = decide (k ∈ ab)
  | [] => by simp
  | j :: ab => by
    rw [List.map_cons, List.any_cons, marks_any W k ab]
    by_cases h : j = k
    · subst h; simp [PyData.eqv, PyData.eqvAll]
    · have h2 : ¬ (j : Int) = (k : Int) := by omega
      have h3 : ¬ k = j := fun e => h e.symm
      simp [PyData.eqv, PyData.eqvAll, h2, h3]
theorem in_forms {Γ : G} {l : List (Str × Value)} {news : List (Addr × Obj)} {W : WorldD} {as : List Addr} {ab : List Nat} {ma fo : Addr} {nf : Nat} {k : Nat} {c : Bool} (hfo : ∀ s, Cx Γ l news s → s.heap.get? fo = some (listOf (as.map Value.ref).toArray nf)) (hlen : as.length = ab.length)
    (hfs : ∀ s, Cx Γ l news s → ∀ (i : Nat) a k, as[i]? = some a → ab[i]? = some k → ∃ t t' F, W k = some F ∧ IsTup s.heap a #[.int (k : Int) t, .int F.gen t']) (hma : ∀ s, Cx Γ l news s → ∃ t t' F, W k = some F ∧ IsTup s.heap ma #[.int (k : Int) t, .int F.gen t']) (hc : decide (k ∈ ab) = c) :
    ∀ u v, u = .ref ma → v = .ref fo → Run Γ l news (compareOp .In u v) (· = .bool c) := by
  rintro _ _ rfl rfl
  refine Run.of fun s Q E C q => ?_
  obtain ⟨bs, hb⟩ := forms_reads hlen (hfs s C)
  walk_at "h"
  obtain ⟨t, t', F, h1, h2⟩ := hma s C
  walk_at "u"
  obtain ⟨cs, hcs⟩ := mark_reads h1 h2
  refine SeqAt.in_list_reads (.list (hfo s C) rfl rfl (by simpa using hb)) hcs (marks_lay W ab) (by simp [PyData.canLay0, PyData.canLayAll0]) ?_ (by rw [marks_any, hc]; exact q _ s.toks rfl)
  have hd : PyData.depth (markD W k) = 1 := by simp [PyData.depth, PyData.depthAll]
  have hu := C.ok.hu
  rw [hd]
  have : min (PyData.depthAll (ab.map (markD W))) 1 ≤ 1 := Nat.min_le_right _ _
  show Γ.A.units + 1 + _ < cLine
  have : (9100 : Nat) ≤ cLine := by unfold cLine; omega
  omega
theorem Ex.elim {Γ : G} {l : List (Str × Value)} {news : List (Addr × Obj)} {b : List Stmt} {Q : Flow → Shared → Prop} {E : Value → Shared → Prop} {s : Shared} (C : Cx Γ l news s) (h : Ex Γ l news b Q E) : wpAny (model prg Γ.w) Γ.A (execs b Γ.env) Q E s := h s C
section
variable {Γ : G} {l l' : List (Str × Value)} {news news' fz : List (Addr × Obj)} {s : Shared} {rest : List Stmt} {D : PD} {V : PV}
theorem ev_own_call {o : Expr} {name : Str} {apos pos : Pos} {x C f : Addr} {ofn : Obj} {fdt : FuncData} {e : Expr} {r : List Expr} {R : List Value → Prop} {P : Value → Prop} (ok : attrOk (KL Γ.w.params) C name = true) (hn : findIn (KL Γ.w.params) (.ref C) name = some none) (ho : Ev Γ l news o (· = .ref x))
    (hat : ∀ s, Cx Γ l news s → At s.heap x C name (.ref f)) (hf : Γ.g.get? f = some ofn) (hd : ofn.data = .func fdt) (ha : Evs Γ l news pos (e :: r) R) (hc : ∀ vs, R vs → Run Γ l news (call (.ref f) vs) P) (hm : MC Γ o name (e :: r) apos pos)
    (he : starEach (e :: r) Γ.env = (false, eval e Γ.env) :: starEach r Γ.env := by rfl) : Ev Γ l news (.Call (.Attribute o name apos) (e :: r) [] pos) P := fun s Q E C k =>
  hm.elim fun pl hm => hm _ _ _ (ho s _ E C fun v s₁ hv C₁ => by
    subst hv
    refine method_own ok hn hat C₁ fun s₂ C₂ => ?_
    exact callWith_meth (h₀ := Γ.g) (first := []) hd hf (ha s₂ _ E C₂ fun vs s₃ hv C₃ => ⟨fun b o e => C₃.keep e, hc vs hv s₃ Q E C₃ k⟩) he)
theorem pset_pile {a : Addr} {Q : Unit → Shared → Prop} {E : Value → Shared → Prop} (hf : PF Γ.g D) (C : Cx Γ l ([pdict Γ.w.params D V, (D.mr, listOf V.ms.toArray V.nm), (D.cp, listOf V.cs.toArray V.nc), (D.fo, listOf V.fs.toArray V.nf), (a, listOf #[] 0)] ++ fz) s)
    (k : ∀ s', Cx Γ l (core Γ.w.params D { V with pl := a, np := 0 } ++ fz) s' → Q () s') : wpAny (model prg Γ.w) Γ.A (setAttr (.ref D.pa) "pile" (.ref a)) Q E s :=
  st_set (n' := V.n) (es' := fun _ => pent Γ.w.params V.tk (.ref D.sa) V.re D.op V.st (.ref a) V.fl (.ref D.xa) D.ru .none V.sk (.ref D.fo) (.ref D.mr) (.ref D.cp)) (ps_pile _) (C.keep hf.pa) (by kernel_rfl) (fun t => by kernel_rfl) (fun _ => .head) (fun _ => by show 13 ≤ 1000; omega) C fun _ s' C' => k s' C'
end
def FmAt (w : World) (g : Heap) (W : WorldD) (hl : Nat → Addr) (st : Addr) (k : Nat) (F : FormD) : Prop :=
  ∃ hd hk nf t' t2, At g st 247 "head" (.ref hd) ∧ At g st 247 "octets" (.bytes #[UInt8.ofNat k] t2) ∧
    SD w (PySem.strKind prg w) g hd hk ∧ valueAt hk "Subtype" = some (.ref nf) ∧ At g nf 204 "text" (.str "Form" t') ∧ valueAt hk "Matrix" = none ∧ valueAt hk "BBox" = none ∧ RowsAt g (hl k) (rowsOf true F.wishes) ∧ F.wishes.length ≤ 2 ∧
    match F.own with
    | none => valueAt hk "Resources" = none
    | some nm => ∃ ra, valueAt hk "Resources" = some (.ref ra) ∧ Res w g W ra nm
theorem FmAt.keeps {w : World} {W : WorldD} {h h' : Heap} {st : Addr} {hl : Nat → Addr} {j : Nat} {F : FormD} (u : FmAt w h W hl st j F) (k : ∀ b o, h.get? b = some o → h'.get? b = some o) : FmAt w h' W hl st j F := by
  walk_at "h"
  obtain ⟨hd, hk, nf, t', t2, a4, a5, a6, a7, a8, a9, a10, a11, a12, a13⟩ := u
  walk_at "u"
  refine ⟨hd, hk, nf, t', t2, a4.keeps k, a5.keeps k, a6.keeps k, a7, a8.keeps k, a9, a10, a11.keeps k, a12, ?_⟩
  split
  · rename_i e; simp only [e] at a13; exact a13
  · rename_i nm e; simp only [e] at a13
    obtain ⟨ra, b1, b2⟩ := a13
    exact ⟨ra, b1, b2.keeps k⟩
def RefAt (g : Heap) (r : Addr) (k : Nat) (F : FormD) : Prop := ∃ t t', At g r 275 "number" (.int (k : Int) t) ∧ At g r 275 "generation" (.int F.gen t') ∧ NoAt g r 275 "pair"
theorem RefAt.keeps {h h' : Heap} {r : Addr} {j : Nat} {F : FormD} (u : RefAt h r j F) (k : ∀ b o, h.get? b = some o → h'.get? b = some o) : RefAt h' r j F := let ⟨t, t', a, b, c⟩ := u; ⟨t, t', a.keeps k, b.keeps k, c.keeps k⟩
noncomputable def formRes (W : WorldD) (n k : Nat) (F : FormD) (nm : Str → Option Nat) (ab : List Nat) : Option (List Str) := match n with
  | 0 => none
  | n + 1 => if k ∈ ab then none else walks (paints fun c => walk W n c (F.own.getD nm) (ab ++ [k])) (rowsOf true F.wishes)
noncomputable abbrev mkT (k : Nat) (t : Tok) (F : FormD) (t' : Tok) : Obj := { cls := .type "tuple", data := .seq #[.int (k : Int) t, .int F.gen t'] }
def CopPost (w : World) (mx cl fi sr : Value) (kvs : List (Str × Value)) (v : Value) (n : List (Addr × Obj)) : Prop := ∃ x dx a o t1 t2 t3 t4 t5 k, v = .ref x ∧ n = [(x, instObj 597 dx), (dx, dictOf [E w.params "matrix" t1 mx, E w.params "clips" t2 cl, E w.params "fill" t3 fi, E w.params "stroke" t4 sr, E w.params "values" t5 (.ref a)] k), (a, o)] ∧ o.IsDictOf (PySem.strKind prg w) kvs ∧ (a == sysModules) = false
theorem g_MOST_FORMS (P : Params) : nsIn (KL P) mainGlobals "MOST_FORMS" = some (some (I 8 1115)) := by kernel_rfl
section
variable {w : World} {D : PD} {V : PV} {W : WorldD} {hl : Nat → Addr} {nm : Str → Option Nat} {ab : List Nat} {n : Nat}
theorem do_form {r st : Addr} {k : Nat} {F : FormD} {kd : Nat} (hW : W k = some F) (hk0 : 0 < k) (hcW : ∀ c ∈ F.wishes, c.length ≤ 100) (hk6 : 6 ≤ kd) (hd : ∀ m, n = m + 1 → k ∉ ab → DoOk w D W hl (F.own.getD nm) (ab ++ [k]) m (OpnF w hl W D.op) kd) :
    Ct w F_do_form.f [.ref D.pa, .ref r, .ref st] (fun g => PaintF w g W D V hl nm ab n (OpnF w hl W D.op) ∧ RefAt g r k F ∧ FmAt w g W hl st k F) (core w.params D V) (PostM w.params D V (formRes W n k F nm ab)) (formRes W n k F nm ab = none) (kd + 4) := by
  refine ct_def (F := F_do_form) (binds := [(Str.ofString "painter", .ref D.pa), (Str.ofString "entry", .ref r), (Str.ofString "stream", .ref st)]) G_do_form (by kernel_rfl) (by kernel_rfl) (by kernel_rfl) fun A s₀ g L outer base hf rm => ?_
  walk_at "h"
  obtain ⟨hf, ⟨t, t', hr1, hr2, hr3⟩, hfm⟩ := hf
  walk_at "u"
  have hk200 := (hf.wf k F hW).2.1
  walk_at "h"
  obtain ⟨as, fs1, fs2, fs3⟩ := hf.fs
  walk_at "u"
  walk_at "h"
  obtain ⟨fop, oop, fdop, hop1, hop2, hop3⟩ := hf.of.func
  walk_at "u"
  walk_at "h"
  obtain ⟨mx, cl, fi, sr, vd, vvs, ⟨sta, hst, s1, s2, s3, s4, s5⟩, s6, s7⟩ := hf.sf
  walk_at "u"
  have hstI : handedIn V.st = true := by rw [hst]; rfl
  obtain ⟨ra0, hre, hres⟩ := hf.re
  have hreI : handedIn V.re = true := by rw [hre]; rfl
  walk_at "h"
  obtain ⟨hdd, hk, nf, ti, t2, m1, m2, m3, m4, m5, m6, m7, m8, m9, m10⟩ := hfm
  walk_at "u"
  conv => { arg 4; whnf }
  -- mark
  refine exx_assign (P := fun v n => ∃ ma, v = .ref ma ∧ n = core w.params D V ++ [(ma, mkT k t F t')]) (may := False) (EvX.perm (evx_if_t (ist_bool (ev_isi (x := .ref r) (ev_bltn (b_isinstance _) (b_isinstance' _)) (by walk_at "nm") (ev_glob (g_Reference _))
      (isi_own (own_Reference _) (fun s C => hr1.ins.keeps fun b o => C.keep) (by kernel_rfl)))) (evx_meth0 G_Reference_pair (m_pair _) (by walk_at "nm") (fun s C => hr3.keeps fun b o => C.keep)
      (Ct.use1 (news := []) (fz := core w.params D V) (pair (k := (k : Int)) (gn := F.gen) (t := t) (t' := t')) (rm.le (by omega)) ⟨hr1, hr2⟩ fun h h' hf k => ⟨hf.1.keeps k, hf.2.keeps k⟩) (by walk_at "mc"))) fun v n h => ?_) (fun h => h.elim) (by kernel_rfl) (by walk_at "sub") (by kernel_rfl) (hide2 fun _ u9 v n hv => ?_)
  · obtain ⟨n₁, rfl, a, rfl, rfl⟩ := h
    exact ⟨_, List.perm_append_comm, a, rfl, rfl⟩
  obtain ⟨ma, rfl, rfl⟩ := hv
  refine u9 _ _ ?_; clear u9
  have memP : ∀ {V' : PV} {fz : List (Addr × Obj)}, pdict w.params D V' ∈ core w.params D V' ++ fz := List.mem_append_left _ (.head _)
  have htup : ∀ {l : List (Str × Value)} s, Cx ⟨w, A, s₀, g, L, outer, base, F_do_form.env L⟩ l (core w.params D V ++ [(ma, mkT k t F t')]) s → IsTup s.heap ma ([.int (k : Int) t, .int F.gen t'] : List Value).toArray := fun s C => ⟨_, C.obj (List.mem_append_right _ (.head _)), rfl, _, rfl⟩
  have hlab : V.fs.length = ab.length := by rw [fs1, List.length_map, fs2]
  have hlen := hf.len
  have c1 : ∀ {p1 p2 p3 p4 p5 : Pos} {i j : Nat}, IsT ⟨w, A, s₀, g, L, outer, base, F_do_form.env L⟩ [(Str.ofString "mark", .ref ma), (Str.ofString "painter", .ref D.pa), (Str.ofString "entry", .ref r), (Str.ofString "stream", .ref st)] (core w.params D V ++ [(ma, mkT k t F t')]) (.Compare (.Subscript (.Name "mark" p1) (.Constant (.int 0) i p2) p3) [.Gt] [.Constant (.int 0) j p4] p5) true := fun {p1 p2 p3 p4 p5 i j} =>
    ist_cmp (Run.mono (R := IsI (k : Int)) (ev_sub (by walk_at "nm") (ev_int (x := 0)) (sub_tup (k := 0) (vs := [.int (k : Int) t, .int F.gen t']) htup rfl (by simp))) fun v hv => ⟨t, hv⟩) ev_int (cmp_int (by simp [icmp]; omega))
  have c2 : ∀ {c : Bool}, decide (k ∈ ab) = c → ∀ {p1 p2 p3 p4 : Pos}, IsT ⟨w, A, s₀, g, L, outer, base, F_do_form.env L⟩ [(Str.ofString "mark", .ref ma), (Str.ofString "painter", .ref D.pa), (Str.ofString "entry", .ref r), (Str.ofString "stream", .ref st)] (core w.params D V ++ [(ma, mkT k t F t')]) (.Compare (.Name "mark" p1) [.In] [.Attribute (.Name "painter" p2) "open_forms" p3] p4) c := fun {c} hc {p1 p2 p3 p4} =>
    ist_cmp (by walk_at "nm" : Ev _ _ _ _ (· = .ref ma)) (ev_attr_name (by walk_at "nm") (pa_open_forms hf.pf memP)) (in_forms (W := W) (as := as) (ab := ab) (nf := V.nf) (fun s C => by rw [← fs1]; exact C.obj (List.mem_append_left _ (by walk_at "mem"))) fs2
      (fun s C i a k h1 h2 => by obtain ⟨u, u', F', q1, q2⟩ := fs3 i a k h1 h2; exact ⟨u, u', F', q1, q2.keeps fun b o => C.keep⟩) (fun s C => ⟨t, t', F, hW, htup s C⟩) hc)
  have hlst : ∀ {l : List (Str × Value)} {fz : List (Addr × Obj)} s, Cx ⟨w, A, s₀, g, L, outer, base, F_do_form.env L⟩ l (core w.params D V ++ fz) s → s.heap.IsList D.fo V.fs.toArray := fun s C => ⟨_, C.obj (List.mem_append_left _ (.tail _ (.tail _ (.tail _ (.head _))))), rfl, _, rfl⟩
  have c3 : ∀ {c : Bool}, decide (n = 0) = c → ∀ {p1 p2 p3 p4 p5 p6 : Pos}, IsT ⟨w, A, s₀, g, L, outer, base, F_do_form.env L⟩ [(Str.ofString "mark", .ref ma), (Str.ofString "painter", .ref D.pa), (Str.ofString "entry", .ref r), (Str.ofString "stream", .ref st)] (core w.params D V ++ [(ma, mkT k t F t')]) (.Compare (.Call (.Name "len" p1) [.Attribute (.Name "painter" p2) "open_forms" p3] [] p4) [.GtE] [.Name "MOST_FORMS" p5] p6) c := fun {c} hc {p1 p2 p3 p4 p5 p6} =>
    ist_cmp (ev_b1 (ev_bltn (b_len _) (b_len' _)) (ev_attr_name (by walk_at "nm") (pa_open_forms hf.pf memP)) fun v hv => by subst hv; exact len_list' hlst (by omega)) ((ev_glob (g_MOST_FORMS _)).mono fun _ e => ⟨_, e⟩)
      (cmp_int (a := (V.fs.length : Int)) (b := 8) (by subst hc; show some (decide _) = some (decide _); congr 1; rw [decide_eq_decide]; omega))
  refine ex_if (c := decide (k ∈ ab) || decide (n = 0)) ?_ ?_
  · by_cases hka : k ∈ ab
    · rw [show (decide (k ∈ ab) || decide (n = 0)) = true by simp [hka]]
      exact ist_or_t (ist_and_t c1 (ist_and_t (c2 (by first | (walk_at "in"; done) | simp [hka])) ist_and_nil))
    · by_cases hn : n = 0
      · rw [show (decide (k ∈ ab) || decide (n = 0)) = true by simp [hn]]
        exact ist_or_f (ist_and_t c1 (ist_and_f (c2 (by first | (walk_at "in"; done) | simp [hka])))) (ist_or_t (c3 (by first | (walk_at "in"; done) | simp [hn])))
      · rw [show (decide (k ∈ ab) || decide (n = 0)) = false by simp [hka, hn]]
        exact ist_or_f (ist_and_t c1 (ist_and_f (c2 (by first | (walk_at "in"; done) | simp [hka])))) (ist_or_f (c3 (by first | (walk_at "in"; done) | simp [hn])) ist_or_nil)
  by_cases hno : k ∈ ab ∨ n = 0
  · have hres0 : formRes W n k F nm ab = none := by
      rcases hno with h | h
      · cases n <;> simp [formRes, h]
      · subst h; rfl
    rw [show (decide (k ∈ ab) || decide (n = 0)) = true by simpa using hno, if_pos rfl]
    exact ex_raise hres0 (rm.le (by omega)) ev_str (by kernel_rfl)
  rw [show (decide (k ∈ ab) || decide (n = 0)) = false by simpa using hno, if_neg (by decide)]
  have hka : k ∉ ab := fun h => hno (.inl h)
  obtain ⟨m, rfl⟩ : ∃ m, n = m + 1 := ⟨n - 1, by omega⟩
  have hd' := hd m rfl hka
  have hfr : formRes W (m + 1) k F nm ab = walks (paints fun c => walk W m c (F.own.getD nm) (ab ++ [k])) (rowsOf true F.wishes) := by simp [formRes, hka]
  rw [hfr]
  refine ex_if_f (ist_cmp (ev_attr_name (by walk_at "nm") (pa_opener hf.pf memP hf.op)) ev_none (cmp_is_none (by rw [hop1]; rfl))) ?_
  -- the four
  refine ex_unpack4 (l' := [(Str.ofString "mark", .ref ma), (Str.ofString "painter", .ref D.pa), (Str.ofString "entry", .ref r), (Str.ofString "stream", .ref st)]) (P := fun a b c d n => a = V.st ∧ b = V.re ∧ c = V.fl ∧ d = V.sk ∧ ∃ x, n = core w.params D V ++ [(ma, mkT k t F t')] ++ [x]) (may := False)
    (EvX.mono (evx_tupE (evs_cons (ev_attr_name (by walk_at "nm") (pa_state hf.pf memP hstI)) (evs_cons (ev_attr_name (by walk_at "nm") (pa_resources hf.pf memP hreI)) (evs_cons (ev_attr_name (by walk_at "nm") (pa_floor hf.pf memP hf.fl)) (evs_cons (ev_attr_name (by walk_at "nm") (pa_skips hf.pf memP hf.sk)) evs_nil)))) ?ln) (hide2 fun _ u9 v n h => ?fin))
    (fun h => h.elim) (by kernel_rfl) (by kernel_rfl) (by kernel_rfl) (by kernel_rfl) (by walk_at "sub") (by kernel_rfl) (by kernel_rfl) (by kernel_rfl) (by kernel_rfl) (by kernel_rfl) fun a b c d n' hP => ?_
  case ln => rintro _ ⟨_, _, _, ⟨_, _, _, ⟨_, _, _, ⟨_, _, _, rfl, rfl⟩, rfl⟩, rfl⟩, rfl⟩; simp
  case fin =>
    obtain ⟨vs, a, ⟨_, rfl, _, ⟨_, rfl, _, ⟨_, rfl, _, ⟨_, rfl, _, rfl, rfl⟩, rfl⟩, rfl⟩, rfl⟩, rfl, rfl⟩ := h
    refine u9 _ _ ?_; clear u9
    exact ⟨a, _, _, _, _, rfl, fun s C => ⟨_, C.obj (List.mem_append_right _ (.head _)), rfl, _, rfl⟩, rfl, rfl, rfl, rfl, _, rfl⟩
  walk_at "h"
  obtain ⟨rfl, rfl, rfl, rfl, x4, rfl⟩ := hP
  walk_at "u"
  refine Ex.drop (news' := core w.params D V ++ [(ma, mkT k t F t')]) ?_ (List.sublist_append_left _ _)
  -- height
  refine ex_assign (P := IsI 0) (ev_b1 (ev_bltn (b_len _) (b_len' _)) (ev_attr_name (by walk_at "nm") (pa_pile hf.pf memP)) fun v hv => by subst hv; exact len_list' (vs := []) (fun s C => ⟨_, C.obj (List.mem_append_left _ (.tail _ (.tail _ (.tail _ (.tail _ (.head _)))))), rfl, _, rfl⟩) (by simp)) (by kernel_rfl) (by walk_at "sub") (by kernel_rfl) fun v hv => ?_
  obtain ⟨th, rfl⟩ := hv
  -- painter.state = copied_state(state)
  refine ex_attr (P := fun v n => ∃ x dx a o t1 t2 t3 t4 t5 kk, v = .ref x ∧ n = core w.params D V ++ [(ma, mkT k t F t'), (x, instObj 597 dx), (dx, dictOf [E w.params "matrix" t1 mx, E w.params "clips" t2 cl, E w.params "fill" t3 fi, E w.params "stroke" t4 sr, E w.params "values" t5 (.ref a)] kk), (a, o)] ∧ o.IsDictOf (PySem.strKind prg w) vvs ∧ (a == sysModules) = false)
    (may := False) (EvX.perm (evx_call (f := 0) G_copied_state (ev_glob (g_copied_state _)) (evs_cons (by walk_at "nm" : Ev _ _ _ _ (· = V.st)) evs_nil) (P := fun v n => ∃ n₁, n = n₁ ++ (core w.params D V ++ [(ma, mkT k t F t')]) ∧ CopPost w mx cl fi sr vvs v n₁) (hide1 fun _ u9 vs hv => ?c1)) (hide2 fun _ u9 v n h => ?c2)) (fun h => h.elim) (fun v n h => by walk_at "nm") fun v n h s C => ?c3
  case c1 =>
    obtain ⟨_, rfl, _, rfl, rfl⟩ := hv
    refine u9 _ ?_; clear u9
    rw [hst]
    exact Ct.use1 (news := []) (fz := core w.params D V ++ [(ma, mkT k t F t')]) (copied_state (mx := mx) (cl := cl) (fi := fi) (sr := sr) (vd := vd) (kvs := vvs)) (rm.le (by omega)) ⟨⟨sta, rfl, s1, s2, s3, s4, s5⟩, s6, s7⟩ fun h h' hf k => ⟨hf.1.keeps k, hf.2.1.keeps k, hf.2.2⟩
  case c2 =>
    obtain ⟨n₁, rfl, x, dx, a, o, t1, t2, t3, t4, t5, kk, rfl, rfl, h1, h2⟩ := h
    refine u9 _ _ ?_; clear u9
    exact ⟨_, List.perm_append_comm.trans (by rw [List.append_assoc]; exact List.Perm.refl _), x, dx, a, o, t1, t2, t3, t4, t5, kk, rfl, rfl, h1, h2⟩
  walk_at "h"
  obtain ⟨x, dx, a, o, t1, t2', t3, t4, t5, kk, rfl, rfl, ho1, ho2⟩ := h
  walk_at "u"
  refine pset_state hf.pf C fun s' C' => Ex.elim C' ?_
  clear C C' s s'
  -- floor, skips
  refine ex_attr (P := fun v n => v = .int 0 th ∧ n = _) (may := False) (evx_of (by walk_at "nm")) (fun h => h.elim) (fun v n h => by walk_at "nm") fun v n h s C => ?_
  obtain ⟨rfl, rfl⟩ := h
  refine pset_floor hf.pf C fun s' C' => Ex.elim C' ?_
  clear C C' s s'
  refine ex_attr (P := fun v n => IsI 0 v ∧ n = _) (may := False) (evx_of ev_int) (fun h => h.elim) (fun v n h => by walk_at "nm") fun v n h s C => ?_
  obtain ⟨⟨tz, rfl⟩, rfl⟩ := h
  refine pset_skips hf.pf C fun s' C' => Ex.elim C' ?_
  clear C C' s s'
  generalize hfz : [(ma, mkT k t F t'), (x, instObj 597 dx), (dx, dictOf [E w.params "matrix" t1 mx, E w.params "clips" t2' cl, E w.params "fill" t3 fi, E w.params "stroke" t4 sr, E w.params "values" t5 (.ref a)] kk), (a, o)] = fz1
  -- open_forms.append(mark)
  refine exx_expr (P := fun n => n = core w.params D { V with st := .ref x, fl := .int 0 th, sk := .int 0 tz, fs := V.fs ++ [.ref ma], nf := V.nf + 1 } ++ fz1) (may := False) (EvX.mono (evx_append (its := V.fs.toArray) (n := V.nf) (D := D.fo) (may := False)
      (ev_attr_name (by walk_at "nm") (pa_open_forms hf.pf memP)) (by walk_at "nm" : Ev _ _ _ _ (· = .ref ma)) (List.mem_append_left _ (.tail _ (.tail _ (.tail _ (.head _))))) (fun v => .tail (.tail (.tail .head))) (by rw [List.size_toArray]; omega) (by walk_at "mc")) (fun v n h => ?_)) (fun h => h.elim) (fun n hn => ?_)
  · walk_at "h"
    obtain ⟨rfl, y, rfl, rfl⟩ := h
    walk_at "u"
    exact ⟨rfl, by simp [List.push_toArray]⟩
  subst hn
  -- enter_form
  obtain ⟨own, ow1, ow2, ra, ow3, ow4⟩ : ∃ own : Option Addr, valueAt hk "Resources" = own.map .ref ∧ (∀ a, own = some a → KitAt a "dict" g) ∧ ∃ ra, (own.map Value.ref).getD V.re = .ref ra ∧ Res w g W ra (F.own.getD nm) := by
    cases ho : F.own with
    | none => simp only [ho] at m10; exact ⟨none, m10, (fun a h => by cases h), ra0, hre, hres⟩
    | some nm' =>
      simp only [ho] at m10
      obtain ⟨ra, e1, e2⟩ := m10
      walk_at "h"
      obtain ⟨kv, _, e3, _⟩ := id e2
      walk_at "u"
      exact ⟨some ra, e1, (fun a h => by cases h; exact e3.kit), ra, rfl, e2⟩
  refine exx_expr (P := fun n => n = core w.params D { V with st := .ref x, fl := .int 0 th, sk := .int 0 tz, fs := V.fs ++ [.ref ma], nf := V.nf + 1, re := .ref ra } ++ fz1) (may := False) (EvX.mono (evx_call (f := 0) G_enter_form (ev_glob (g_enter_form _)) (evs_cons (by walk_at "nm" : Ev _ _ _ _ (· = Value.ref D.pa)) (evs_cons (ev_attr_name (by walk_at "nm") (get_at (a_shead _) (at_imm m1))) evs_nil))
      (P := fun v n => ∃ n₁, n = n₁ ++ fz1 ∧ v = .none ∧ n₁ = core w.params D { V with st := .ref x, fl := .int 0 th, sk := .int 0 tz, fs := V.fs ++ [.ref ma], nf := V.nf + 1, re := .ref ra }) fun vs hv => ?_) (fun v n h => ?_)) (fun h => h.elim) (fun n hn => ?_)
  · walk_at "h"
    obtain ⟨_, rfl, _, ⟨_, rfl, _, rfl, rfl⟩, rfl⟩ := hv
    walk_at "u"
    rw [← ow3]
    exact Ct.use1 (enter_form (own := own)) (rm.le (by omega)) ⟨hf.pf, m3, m6, m7, ow1, ow2⟩ fun h h' hf k => ⟨hf.1.keeps k, hf.2.1.keeps k, hf.2.2.1, hf.2.2.2.1, hf.2.2.2.2.1, fun a e => KitAt.keeps (hf.2.2.2.2.2 a e) k⟩
  · walk_at "h"
    obtain ⟨n₁, rfl, rfl, rfl⟩ := h
    walk_at "u"
    exact ⟨rfl, rfl⟩
  subst hn
  -- paint_all
  have hwl : F.wishes.length ≤ 2 := m9
  have hoc := oc_rows m F.wishes hwl
  have hsz := hf.sz
  have hfacts : ∀ (l : List (Str × Value)) s, Cx ⟨w, A, s₀, g, L, outer, base, F_do_form.env L⟩ l (core w.params D { V with st := .ref x, fl := .int 0 th, sk := .int 0 tz, fs := V.fs ++ [.ref ma], nf := V.nf + 1, re := .ref ra } ++ fz1) s →
      PaintF w (gOf s (core w.params D { V with st := .ref x, fl := .int 0 th, sk := .int 0 tz, fs := V.fs ++ [.ref ma], nf := V.nf + 1, re := .ref ra })) W D { V with st := .ref x, fl := .int 0 th, sk := .int 0 tz, fs := V.fs ++ [.ref ma], nf := V.nf + 1, re := .ref ra } hl (F.own.getD nm) (ab ++ [k]) m (OpnF w hl W D.op) ∧
      RowsAt (gOf s (core w.params D { V with st := .ref x, fl := .int 0 th, sk := .int 0 tz, fs := V.fs ++ [.ref ma], nf := V.nf + 1, re := .ref ra })) (hl k) (rowsOf true F.wishes) := fun l s C => by
    have K : ∀ b o, g.get? b = some o → (gOf s (core w.params D { V with st := .ref x, fl := .int 0 th, sk := .int 0 tz, fs := V.fs ++ [.ref ma], nf := V.nf + 1, re := .ref ra })).get? b = some o := fun b o e => (C.drop (List.sublist_append_left _ _)).g_le e
    have Fz : ∀ p ∈ fz1, (gOf s (core w.params D { V with st := .ref x, fl := .int 0 th, sk := .int 0 tz, fs := V.fs ++ [.ref ma], nf := V.nf + 1, re := .ref ra })).get? p.1 = some p.2 := fun p hp => C.frozen hp
    subst hfz
    have z1 := Fz _ (.head _)
    have z2 := Fz _ (.tail _ (.head _))
    have z3 := Fz _ (.tail _ (.tail _ (.head _)))
    have z4 := Fz _ (.tail _ (.tail _ (.tail _ (.head _))))
    have hI : ∀ {n : Str} {v : Value}, At g sta 597 n v → handedIn v = true := fun h => let ⟨_, _, _, _, _, _, e⟩ := h; e
    refine ⟨⟨hf.pf.keeps K, ⟨mx, cl, fi, sr, a, vvs, ⟨x, rfl, ⟨dx, _, kk, z2, z3, by kernel_rfl, hI s1⟩, ⟨dx, _, kk, z2, z3, by kernel_rfl, hI s2⟩, ⟨dx, _, kk, z2, z3, by kernel_rfl, hI s3⟩, ⟨dx, _, kk, z2, z3, by kernel_rfl, hI s4⟩, ⟨dx, _, kk, z2, z3, by kernel_rfl, rfl⟩⟩, ⟨Heap.dictOf_iff.mpr ⟨o, z4, ho1⟩, ho2⟩, s7⟩,
      ⟨ra, rfl, ow4.keeps K⟩, rfl, rfl, hf.op, hf.of.keeps K, fun j F' e => ⟨(hf.wf j F' e).1.keeps K, (hf.wf j F' e).2⟩, ⟨as ++ [ma], by simp [fs1], by simp [fs2], fun i b j h1 h2 => ?_⟩, by simp; omega, ?_⟩, m8.keeps K⟩
    · by_cases hi : i < as.length
      · rw [List.getElem?_append_left hi] at h1
        rw [List.getElem?_append_left (by omega)] at h2
        walk_at "h"
        obtain ⟨u, u', F', q1, q2⟩ := fs3 i b j h1 h2
        walk_at "u"
        exact ⟨u, u', F', q1, q2.keeps K⟩
      · rw [List.getElem?_append_right (by omega)] at h1
        rw [List.getElem?_append_right (by omega)] at h2
        obtain ⟨i', hi'⟩ : ∃ i', i' = i - as.length := ⟨_, rfl⟩
        rw [← fs2] at h2
        rw [← hi'] at h1 h2
        cases i' with
        | zero =>
          cases h1; cases h2
          exact ⟨t, t', F, hW, _, z1, rfl, _, rfl⟩
        | succ i' => simp at h1
    · have hcm := cost_succ m
      constructor
      · show V.ms.length + cost m ≤ 90000; omega
      · show V.cs.length + cost m ≤ 90000; omega
  refine exx_expr (P := fun n => ∃ n₁, n = n₁ ++ fz1 ∧ PostM w.params D { V with st := .ref x, fl := .int 0 th, sk := .int 0 tz, fs := V.fs ++ [.ref ma], nf := V.nf + 1, re := .ref ra } (walks (paints fun c => walk W m c (F.own.getD nm) (ab ++ [k])) (rowsOf true F.wishes)) .none n₁) (may := walks (paints fun c => walk W m c (F.own.getD nm) (ab ++ [k])) (rowsOf true F.wishes) = none)
    (EvX.mono (evx_call (f := 0) G_paint_all (ev_glob (g_paint_all _)) (evs_cons (by walk_at "nm" : Ev _ _ _ _ (· = Value.ref D.pa)) (evs_cons (P := (· = .ref (hl k))) (ev_own_call (by kernel_rfl) (by kernel_rfl) (by walk_at "nm" : Ev _ _ _ _ (· = Value.ref D.pa))
      (fun s C => by rw [← hop1]; exact at_mix (v := D.op) hf.pf.pa memP (by kernel_rfl) hf.op s C) hop2 hop3 (evs_cons (ev_attr_name (by walk_at "nm") (pa_shelf hf.pf memP)) (evs_cons (by walk_at "nm" : Ev _ _ _ _ (· = Value.ref st)) evs_nil)) ((hide1 fun _ u9 vs hv => ?op)) (by walk_at "mc")) evs_nil))
      (P := fun v n => ∃ n₁, n = n₁ ++ fz1 ∧ PostM w.params D { V with st := .ref x, fl := .int 0 th, sk := .int 0 tz, fs := V.fs ++ [.ref ma], nf := V.nf + 1, re := .ref ra } (walks (paints fun c => walk W m c (F.own.getD nm) (ab ++ [k])) (rowsOf true F.wishes)) v n₁) fun vs hv => ?_) fun v n h => ?_) (fun m e s' h => ⟨m, h⟩) (hide1 fun _ u9 n hn => ?_)
  case op =>
    obtain ⟨_, rfl, _, ⟨_, rfl, _, rfl, rfl⟩, rfl⟩ := hv
    refine u9 _ ?_; clear u9
    exact CtP.run0 (Ct.mono (opener_ct (hl := hl) (sa := .ref D.sa) (t2 := t2) hW hk200) (fun g h => h) (fun v n h => ⟨h.2, h.1⟩) id (Nat.le_refl _)) (rm.le (by omega)) ⟨hop1 ▸ hf.of, m2⟩ fun h h' hf k => ⟨hf.1.keeps k, hf.2.keeps k⟩
  · walk_at "h"
    obtain ⟨_, rfl, _, ⟨_, rfl, _, rfl, rfl⟩, rfl⟩ := hv
    walk_at "u"
    exact Ct.use (paint_all (kd := kd) (fun h h' u k => u.keeps k) hd' (fun c hc => hcW c (by
      unfold rowsOf at hc
      simpa using hc)) hk6 (by
        have hcm := cost_pos m
        constructor
        · show V.ms.length + oc m (rowsOf true F.wishes) + cost m ≤ 90000; omega
        · show V.cs.length + oc m (rowsOf true F.wishes) + cost m ≤ 90000; omega)) rm (fun s C => hfacts _ s C)
  · obtain ⟨n₁, rfl, h⟩ := h
    obtain ⟨rfl, h⟩ := h
    exact ⟨rfl, n₁, rfl, rfl, h⟩
  obtain ⟨n₁, rfl, -, out, objs, V6, r1, r2, rfl, r4⟩ := hn
  refine u9 _ ?_; clear u9
  have hfs6 : V6.fs = V.fs ++ [.ref ma] := r4.fs
  have memQ : ∀ {V' : PV} {fz fz' : List (Addr × Obj)}, pdict w.params D V' ∈ core w.params D V' ++ fz ++ fz' := List.mem_append_left _ (List.mem_append_left _ (.head _))
  -- open_forms.pop()
  refine exx_any (P := fun v n => v = .ref ma ∧ n = core w.params D { V6 with fs := V.fs, nf := V6.nf + 1 } ++ objs ++ fz1) (may := False) (evx_pop (D := D.fo) (its := V6.fs.toArray) (its' := V.fs.toArray) (n := V6.nf) (ev_attr_name (by walk_at "nm") (pa_open_forms hf.pf memQ)) (List.mem_append_left _ (List.mem_append_left _ (.tail _ (.tail _ (.tail _ (.head _)))))) (by rw [hfs6]; simp) (by rw [hfs6]; simp)
    (.tail (.tail (.tail .head))) (by rw [hfs6]; simp; omega) (by walk_at "mc")) (fun h => h.elim) fun v n h => ?_
  obtain ⟨rfl, rfl⟩ := h
  -- pile = pile[:height]
  refine ex_attr (P := fun v n => ∃ b, v = .ref b ∧ n = (b, listOf #[] 0) :: (core w.params D { V6 with fs := V.fs, nf := V6.nf + 1 } ++ objs ++ fz1)) (may := False) (evx_upto (items := #[]) (b := 0) (ev_attr_name (by walk_at "nm") (pa_pile hf.pf memQ)) ((by walk_at "nm" : Ev _ _ _ _ (· = Value.int 0 th)).mono fun v h => ⟨th, h⟩)
    (fun s C => ⟨_, C.obj (List.mem_append_left _ (List.mem_append_left _ (.tail _ (.tail _ (.tail _ (.tail _ (.head _))))))), rfl, _, rfl⟩) (by simp)) (fun h => h.elim) (fun v n h => by walk_at "nm") fun v n h s C => ?_
  obtain ⟨b, rfl, rfl⟩ := h
  refine pset_pile (V := { V6 with fs := V.fs, nf := V6.nf + 1 }) (fz := (V6.pl, listOf #[] V6.np) :: (objs ++ fz1)) hf.pf (C.perm ?_) fun s' C' => Ex.elim C' ?_
  · have e : core w.params D { V6 with fs := V.fs, nf := V6.nf + 1 } ++ objs ++ fz1 = [pdict w.params D { V6 with fs := V.fs, nf := V6.nf + 1 }, (D.mr, listOf V6.ms.toArray V6.nm), (D.cp, listOf V6.cs.toArray V6.nc), (D.fo, listOf V.fs.toArray (V6.nf + 1))] ++ (V6.pl, listOf #[] V6.np) :: (objs ++ fz1) := by rw [List.append_assoc]; rfl
    rw [e]
    exact List.perm_middle.symm
  clear C C' s s'
  refine Ex.drop (news' := core w.params D { V6 with fs := V.fs, nf := V6.nf + 1, pl := b, np := 0 } ++ objs) ?_ (List.Sublist.append_left (List.Sublist.cons _ (List.sublist_append_left _ _)) _)
  intro s C
  refine wpAny_execs_cons (Assign_Tuple ((evx_tupE (may := False) (evs_cons (by walk_at "nm" : Ev _ _ _ _ (· = V.st)) (evs_cons (by walk_at "nm" : Ev _ _ _ _ (· = V.re)) (evs_cons (by walk_at "nm" : Ev _ _ _ _ (· = V.fl)) (evs_cons (by walk_at "nm" : Ev _ _ _ _ (· = V.sk)) evs_nil)))) ?ln) s _ _ C (fun v n s₁ hv C₁ => ?_) (fun h => h.elim)))
  case ln => rintro _ ⟨_, _, _, ⟨_, _, _, ⟨_, _, _, ⟨_, _, _, rfl, rfl⟩, rfl⟩, rfl⟩, rfl⟩; simp
  walk_at "h"
  obtain ⟨vs, tt, ⟨_, rfl, _, ⟨_, rfl, _, ⟨_, rfl, _, ⟨_, rfl, _, rfl, rfl⟩, rfl⟩, rfl⟩, rfl⟩, rfl, rfl⟩ := hv
  walk_at "u"
  obtain ⟨mm, Fm, hmm⟩ := C₁.fr
  refine unpackN_ Fm C₁.nw (items := #[V.st, V.re, V.fl, V.sk]) ⟨_, C₁.obj (List.mem_append_right _ (.head _)), rfl, _, rfl⟩ C.ok.hh (by rfl) (by rfl) fun h' F' N' => ?_
  have C₂ : Cx ⟨w, A, s₀, g, L, outer, base, F_do_form.env L⟩ _ (core w.params D { V6 with fs := V.fs, nf := V6.nf + 1, pl := b, np := 0 } ++ objs) { s₁ with heap := h' } := Cx.drop ⟨C₁.ok, ⟨mm, F', hmm⟩, N', C₁.nd, C₁.gens, C₁.drawn, C₁.os⟩ (List.sublist_append_left _ _)
  refine assignInOrder_cons (assign_Attr C₂ (by walk_at "nm" : Ev _ _ _ _ (· = Value.ref D.pa)) fun s₃ C₃ => pset_state hf.pf C₃ fun s₄ C₄ => ?_)
  refine assignInOrder_cons (assign_Attr C₄ (by walk_at "nm" : Ev _ _ _ _ (· = Value.ref D.pa)) fun s₃ C₃ => pset_resources hf.pf C₃ fun s₄ C₄ => ?_)
  refine assignInOrder_cons (assign_Attr C₄ (by walk_at "nm" : Ev _ _ _ _ (· = Value.ref D.pa)) fun s₃ C₃ => pset_floor hf.pf C₃ fun s₄ C₄ => ?_)
  refine assignInOrder_cons (assign_Attr C₄ (by walk_at "nm" : Ev _ _ _ _ (· = Value.ref D.pa)) fun s₃ C₃ => pset_skips hf.pf C₃ fun s₄ C₄ => ?_)
  refine assignInOrder_nil (Ex.elim C₄ ?_)
  refine ex_nil fun s C => ⟨_, _, C, rfl, out, objs, _, r1, r2, rfl, ⟨rfl, rfl, rfl, rfl, rfl, ?_, ?_⟩⟩
  · exact r4.ms
  · exact r4.cs
end
section
variable {w : World} {D : PD} {V : PV} {W : WorldD} {hl : Nat → Addr} {nm : Str → Option Nat} {ab : List Nat} {n : Nat} {c : Str} {t : Tok}
theorem walk_form {k : Nat} {F : FormD} (hn : nm c = some (k + 1)) (hW : W (k + 1) = some F) : walk W n c nm ab = formRes W n (k + 1) F nm ab := by
  cases n with
  | zero => simp [walk, hn, formRes]
  | succ n => simp [walk, hn, formRes, hW]
theorem do_object_form {k kd : Nat} (hk6 : 6 ≤ kd) (hd : ∀ m nm' k, n = m + 1 → DoOk w D W hl nm' (ab ++ [k]) m (OpnF w hl W D.op) kd) (hn : nm c = some (k + 1)) :
    Ct w F_do_object.f [.ref D.pa, .str c t] (fun g => PaintF w g W D V hl nm ab n (OpnF w hl W D.op)) (core w.params D V) (PostM w.params D V (walk W n c nm ab)) (walk W n c nm ab = none) (kd + 5) := by
  refine ct_def (F := F_do_object) (binds := [(Str.ofString "painter", .ref D.pa), (Str.ofString "name", .str c t)]) G_do_object (by kernel_rfl) (by kernel_rfl) (by kernel_rfl) fun A s₀ g L outer base hf rm => ?_
  walk_at "h"
  obtain ⟨ra, hre, kvs, x, r1, r2, xvs, r3, r4⟩ := hf.re
  walk_at "u"
  obtain ⟨r, tn, tg, F, i1, i2, i3, i4, hW⟩ : ∃ r t t' F, valueAt xvs c = some (.ref r) ∧ At g r 275 "number" (.int ((k + 1 : Nat) : Int) t) ∧ At g r 275 "generation" (.int F.gen t') ∧ NoAt g r 275 "pair" ∧ W (k + 1) = some F := by have := r4 c; rw [hn] at this; exact this
  walk_at "h"
  obtain ⟨hfo, hk2, hwl, hwc⟩ := hf.wf _ _ hW
  walk_at "u"
  walk_at "h"
  obtain ⟨tkvs, tp, st, tt, hdd, hk, nf, ti, t2, m1, m2, m3, m4⟩ := hfo
  walk_at "u"
  have hfm : FmAt w g W hl st (k + 1) F := ⟨hdd, hk, nf, ti, t2, m4⟩
  walk_at "h"
  obtain ⟨m4, m5, m6, m7, m8, -⟩ := m4
  walk_at "u"
  rw [walk_form hn hW]
  conv => { arg 4; whnf }
  refine ex_assign (P := (· = Value.ref r)) (ev_callP G_named (ev_glob (g_named _)) (evs_cons (by walk_at "nm") (evs_cons ev_str (evs_cons (by walk_at "nm") evs_nil))) fun vs hv => ?_) (by kernel_rfl) (by walk_at "sub") (by kernel_rfl) fun v' hv => ?_
  · walk_at "h"
    obtain ⟨v', rfl, u, ⟨v'', ⟨t', rfl⟩, u', ⟨v''', rfl, u'', rfl, rfl⟩, rfl⟩, rfl⟩ := hv
    walk_at "u"
    refine Run.mono (CtP.run1 (news := [pdict w.params D V]) (fz := _) (named (V := V) (ra := ra) (x := x) (kvs := kvs) (xvs := xvs)) (rm.le (by omega)) ⟨hf.pf, hre, r1, r2, r3⟩ fun h h' hf k => ⟨hf.1.keeps k, hf.2.1, hf.2.2.1.keeps k, hf.2.2.2.1, hf.2.2.2.2.keeps k⟩) fun a h => ?_
    rw [h, i1]; rfl
  subst hv
  refine ex_assign (P := (· = Value.ref st)) (ev_meth (x := D.sa) G_Lookup_fetch (m_fetch _) (ev_attr_name (by walk_at "nm") (pa_shelf hf.pf (by walk_at "mem"))) (fun s C => hf.pf.shelf.fetch.keeps fun b o => C.keep)
    (evs_cons (by walk_at "nm") evs_nil) (fun vs hv => ?_) (by walk_at "mc")) (by kernel_rfl) (by walk_at "sub") (by kernel_rfl) fun v' hv => ?_
  · walk_at "h"
    obtain ⟨v', rfl, u, rfl, rfl⟩ := hv
    walk_at "u"
    exact CtP.run0 (fetch (tb := D.tb)) (rm.le (by omega)) ⟨hf.pf.shelf.table, .ref i2 i3 m1 m2 m3 (.stream m4.ins)⟩ fun h h' hf k => ⟨hf.1.keeps k, hf.2.keeps k⟩
  subst hv
  refine ex_if_f (ist_not (b := true) (ist_bool (ev_isi (ev_bltn (b_isinstance _) (b_isinstance' _)) (by walk_at "nm") (ev_glob (g_Stream _)) (isi_own (own_Stream _) (fun s C => m4.ins.keeps fun b o => C.keep) (by kernel_rfl)))) (by rfl)) ?_
  refine ex_assign (P := (· = Value.ref nf)) (ev_meth (x := D.sa) G_Lookup_get (m_get _) (ev_attr_name (by walk_at "nm") (pa_shelf hf.pf (by walk_at "mem"))) (fun s C => hf.pf.shelf.get.keeps fun b o => C.keep)
    (evs_cons (ev_attr_name (by walk_at "nm") (get_at (a_shead _) (at_imm m4))) (evs_cons ev_str evs_nil)) (fun vs hv => ?_) (by walk_at "mc")) (by kernel_rfl) (by walk_at "sub") (by kernel_rfl) fun v' hv => ?_
  · walk_at "h"
    obtain ⟨v', rfl, u, ⟨v'', ⟨t', rfl⟩, u', rfl, rfl⟩, rfl⟩ := hv
    walk_at "u"
    exact CtP.run0 (lget (tb := D.tb) (kvs := hk) (r := .ref nf)) (rm.le (by omega)) ⟨hf.pf.shelf, m6, by rw [m7]; exact .plain (.name m8.ins)⟩ fun h h' hf k => ⟨hf.1.keeps k, hf.2.1.keeps k, hf.2.2.keeps k⟩
  subst hv
  refine ex_assign (P := (· = Value.str "Form" ti)) (ev_if_t (ist_bool (ev_isi (ev_bltn (b_isinstance _) (b_isinstance' _)) (by walk_at "nm") (ev_glob (g_Name _)) (isi_own (own_Name _) (fun s C => m8.ins.keeps fun b o => C.keep) (by kernel_rfl))))
    (ev_attr_name (by walk_at "nm") (get_at (a_ntext _) (at_imm m8)))) (by kernel_rfl) (by walk_at "sub") (by kernel_rfl) fun v' hv => ?_
  subst hv
  refine ex_if_f (ist_cmp (ev_nameP (P := IsS "Form") (by walk_at "mem") ⟨_, rfl⟩) ev_str (cmp_eq_str (by kernel_rfl))) ?_
  refine ex_if_t (ist_cmp (ev_nameP (P := IsS "Form") (by walk_at "mem") ⟨_, rfl⟩) ev_str (cmp_eq_str (by kernel_rfl))) ?_
  refine exx_expr (P := fun n' => PostM w.params D V (formRes W n (k + 1) F nm ab) .none n') (may := formRes W n (k + 1) F nm ab = none) (EvX.mono (evx_call (f := 0) G_do_form (ev_glob (g_do_form _)) (evs_cons (by walk_at "nm") (evs_cons (by walk_at "nm") (evs_cons (by walk_at "nm") evs_nil)))
    (P := PostM w.params D V (formRes W n (k + 1) F nm ab)) fun vs hv => ?_) fun v n h => by obtain ⟨rfl, h⟩ := h; exact ⟨rfl, rfl, h⟩) (fun m e s' h => ⟨m, h⟩) fun n' hn' => ?_
  · walk_at "h"
    obtain ⟨_, rfl, _, ⟨_, rfl, _, ⟨_, rfl, _, rfl, rfl⟩, rfl⟩, rfl⟩ := hv
    walk_at "u"
    have z := Ct.use1 (Γ := ⟨w, A, s₀, g, L, outer, base, FI.env F_do_object L⟩) (l := [(Str.ofString "word", .str "Form" ti), (Str.ofString "sort", .ref nf), (Str.ofString "stream", .ref st), (Str.ofString "entry", .ref r), (Str.ofString "painter", .ref D.pa), (Str.ofString "name", .str c t)]) (fz := [])
      (do_form (V := V) (n := n) (nm := nm) (ab := ab) (r := r) (st := st) hW (Nat.succ_pos k) hwc hk6 (fun m e _ => hd m _ _ e)) rm ⟨hf, ⟨tn, tg, i2, i3, i4⟩, hfm⟩ fun h h' hf k => ⟨hf.1.keeps (fun h h' u k => u.keeps k) k, hf.2.1.keeps k, hf.2.2.keeps k⟩
    exact CallX.mono z fun v n h => by obtain ⟨n₁, rfl, h⟩ := h; rw [List.append_nil]; exact h
  · exact ex_nil fun s C => ⟨_, _, C, hn'⟩
theorem do_object : ∀ (n : Nat) (nm : Str → Option Nat) (ab : List Nat), DoOk w D W hl nm ab n (OpnF w hl W D.op) (11 + 5 * n)
  | n, nm, ab => fun V c t hc => by
    have hOF : ∀ h h' : Heap, OpnF w hl W D.op h → (∀ b o, h.get? b = some o → h'.get? b = some o) → OpnF w hl W D.op h' := fun h h' u k => u.keeps k
    match hn : nm c with
    | none => exact Ct.mono (do_object_none hOF hc hn) (fun _ h => h) (fun _ _ h => h) id (by omega)
    | some 0 => exact Ct.mono (do_object_img hOF hn) (fun _ h => h) (fun _ _ h => h) id (by omega)
    | some (k + 1) =>
      match n with
      | 0 => exact Ct.mono (do_object_form (kd := 6) (Nat.le_refl _) (fun m nm' k e => by cases e) hn) (fun _ h => h) (fun _ _ h => h) id (by omega)
      | n + 1 => exact Ct.mono (do_object_form (kd := 11 + 5 * n) (by omega) (fun m nm' k e => by cases e; exact do_object n nm' _) hn) (fun _ h => h) (fun _ _ h => h) id (by omega)
end
section
variable {Γ : G} {l l' : List (Str × Value)} {news news' fz : List (Addr × Obj)} {s : Shared} {rest : List Stmt} {Q : Flow → Shared → Prop} {E : Value → Shared → Prop}
noncomputable abbrev G.comp (Γ : G) (scope : Scope) (cl : List (Str × Addr)) (C : Addr) : G := { Γ with env := compEnvC scope cl C Γ.env }
theorem G.fe_comp (Γ : G) (O : Γ.Ok) (scope : Scope) (cl : List (Str × Addr)) (C : Addr) : (Γ.comp scope cl C).fe = Γ.fe := by
  have h := O.hA
  show (match Γ.A.frames with | some (e :: _) => e | _ => compEnvC scope cl C Γ.env) = _
  rw [h]
theorem Cx.toComp {scope : Scope} {cl : List (Str × Addr)} {C : Addr} (X : Cx Γ l news s) (hC : C ≠ Γ.L) (hk : scope.kind = .function) : Cx (Γ.comp scope cl C) l news s := by
  have O := X.ok
  have e := G.fe_comp Γ O scope cl C
  exact ⟨⟨by rw [e]; exact O.hA, O.hh, O.hd, O.hu, by rw [e]; exact O.fr, by rw [e]; exact O.kf, fun q => absurd q hC, hk, O.gl, O.bi, O.bs, O.bf, O.st⟩, X.fr, X.nw, X.nd, X.gens, X.drawn, X.os⟩
theorem Cx.ofComp {scope : Scope} {cl : List (Str × Addr)} {C : Addr} (X : Cx (Γ.comp scope cl C) l news s) (O : Γ.Ok) : Cx Γ l news s := ⟨O, X.fr, X.nw, X.nd, X.gens, X.drawn, X.os⟩
theorem Cx.step {pre post : List (Addr × Obj)} {d : Addr} {o o' : Obj} (C : Cx Γ l (pre ++ (d, o) :: post) s) {h' : Heap} {n : Nat} (hk : ∀ b ob, b ∉ [d] → s.heap.get? b = some ob → h'.get? b = some ob) (ho : h'.get? d = some o') : Cx Γ l (pre ++ (d, o') :: post) { s with heap := h', toks := n } := by
  have nd := C.nd
  have ea : (pre ++ (d, o') :: post).map (·.1) = (pre ++ (d, o) :: post).map (·.1) := by simp
  have hd : d ∈ (pre ++ (d, o) :: post).map (·.1) := by simp
  refine C.redo (fun b ob hb => hk b ob (fun q => hb (by rw [List.mem_singleton.mp q]; exact hd))) (fun p hp => ?_) (by rw [ea]; exact nd)
  by_cases hpd : p.1 = d
  · rcases List.mem_append.mp hp with h | h
    · rw [List.map_append, List.nodup_append] at nd
      exact absurd hpd (nd.2.2 _ (List.mem_map_of_mem h) _ (by simp))
    · rcases List.mem_cons.mp h with rfl | h
      · exact ⟨ho, .inl hd⟩
      · rw [List.map_append, List.nodup_append, List.map_cons, List.nodup_cons] at nd
        have z : p.1 ∈ post.map (·.1) := List.mem_map_of_mem (f := (·.1)) h
        rw [hpd] at z
        exact absurd z nd.2.1.1
  · have hm : p ∈ pre ++ (d, o) :: post := by
      rcases List.mem_append.mp hp with h | h
      · exact List.mem_append_left _ h
      · rcases List.mem_cons.mp h with rfl | h
        · exact absurd rfl hpd
        · exact List.mem_append_right _ (.tail _ h)
    exact ⟨hk _ _ (by simpa using hpd) (C.obj hm), .inl (List.mem_map_of_mem hm)⟩
theorem Cx.lose {pre post : List (Addr × Obj)} {d : Addr} {o : Obj} (C : Cx Γ l (pre ++ (d, o) :: post) s) {h' : Heap} {n : Nat} (hk : ∀ b ob, b ∉ [d] → s.heap.get? b = some ob → h'.get? b = some ob) : Cx Γ l (pre ++ post) { s with heap := h', toks := n } := by
  have nd := C.nd
  have hd : d ∈ (pre ++ (d, o) :: post).map (·.1) := by simp
  have sub : (pre ++ post).Sublist (pre ++ (d, o) :: post) := List.Sublist.append_left (List.sublist_cons_self _ _) _
  refine C.redo (fun b ob hb => hk b ob (fun q => hb (by rw [List.mem_singleton.mp q]; exact hd))) (fun p hp => ?_) ((sub.map _).nodup nd)
  have hm := sub.subset hp
  refine ⟨hk _ _ (fun q => ?_) (C.obj hm), .inl (List.mem_map_of_mem hm)⟩
  have q := List.mem_singleton.mp q
  rw [List.map_append, List.nodup_append, List.map_cons, List.nodup_cons] at nd
  rcases List.mem_append.mp hp with h | h
  · exact nd.2.2 _ (List.mem_map_of_mem h) _ (.head _) q
  · have z : p.1 ∈ post.map (·.1) := List.mem_map_of_mem (f := (·.1)) h
    rw [q] at z
    exact nd.2.1.1 z
structure WIter (Γ : G) (it : Addr) (own : List (Addr × Obj)) (N : Nat) (P : Nat → Value → Prop) (fp : List Addr) (St : Nat → Heap → Prop) : Prop where
  W : Walks prg Γ.w Γ.A it fp [it] N P St
  at_ : ∀ i h, St i h → ∃ o, h.get? it = some o
  fp : ∀ b ∈ fp, b = it ∨ (∃ o, Γ.g.get? b = some o) ∨ b ∈ own.map (·.1)
def MakesW (Γ : G) (l : List (Str × Value)) (news : List (Addr × Obj)) (iter : Expr) (N : Nat) (P : Nat → Value → Prop) (own : List (Addr × Obj)) : Prop :=
  ∀ s (Q : Value → Shared → Prop) (E : Value → Shared → Prop), Cx Γ l news s → (∀ it o fp St s', WIter Γ it own N P fp St → St 0 s'.heap → Cx Γ l (news ++ [(it, o)]) s' → Q (.ref it) s') →
    wpAny (model prg Γ.w) Γ.A (eval iter Γ.env) (fun x s₁ => wpAny (model prg Γ.w) Γ.A (pyIter x) Q E s₁) E s
theorem WIter.over {it : Addr} {own : List (Addr × Obj)} {N : Nat} {P : Nat → Value → Prop} {fp : List Addr} {St : Nat → Heap → Prop} (I : WIter Γ it own N P fp St) {i : Nat} {o : Obj} {n n' : List (Addr × Obj)} {s s' : Shared} (st : St i s.heap) (C : Cx Γ l n s) (C' : Cx Γ l' n' s')
    (h1 : (it, o) ∈ n) (h2 : (it, o) ∈ n') (ho : ∀ p ∈ own, p ∈ n) (ho' : ∀ p ∈ own, p ∈ n') : St i s'.heap := by
  refine I.W.frame i _ _ st fun b hb ob e => ?_
  rcases I.fp b hb with rfl | ⟨ob', h⟩ | h
  · rw [C.obj h1] at e; cases e; exact C'.obj h2
  · rw [C.keep h] at e; cases e; exact C'.keep h
  · obtain ⟨p, hp, rfl⟩ := List.mem_map.mp h
    rw [C.obj (ho p hp)] at e; cases e; exact C'.obj (ho' p hp)
theorem ex_forW {x : Str} {px pos : Pos} {iter : Expr} {body : List Stmt} {N : Nat} {P : Nat → Value → Prop} {own : List (Addr × Obj)} {may : Prop} (J : Nat → List (Str × Value) → List (Addr × Obj) → Prop)
    (hm : MakesW Γ l news iter N P own) (h0 : J 0 l news) (hx : Γ.env.kindOf x = some .local) (hJ : ∀ i l n, J i l n → (l.all fun p => !(p.1 == x)) = true) (hO : ∀ i l n, J i l n → ∀ p ∈ own, p ∈ n)
    (turn : ∀ i v l n t, i < N → P i v → J i l n → Ex Γ ((x, v) :: l) (n ++ t) body (fun f s' => match f with | .next | .cont => ∃ l' n', J (i + 1) l' n' ∧ Cx Γ l' (n' ++ t) s' | .brk => False | .ret v => Q (.ret v) s') (fun e s' => may ∧ Flies Γ e s'))
    (k : ∀ l n, J N l n → Ex Γ l n rest Q (fun e s' => may ∧ Flies Γ e s')) (hs : ∀ v, foldedSetIterable iter Γ.env v = pure v := by intro _; rfl) (hlo : Γ.env.locals = Γ.L := by rfl) : Ex Γ l news (.For (.Name x px) iter body [] pos :: rest) Q (fun e s' => may ∧ Flies Γ e s') := fun s C => by
  refine wpAny_execs_cons ?_
  show wpAny _ _ (standAt pos >>= fun _ => eval iter Γ.env >>= fun v => foldedSetIterable iter Γ.env v >>= fun y => standAt iter.pos >>= fun _ => holding [y] (pyIter y) >>= fun it => runOwn (.forLoop (.Name x px) it body [] Γ.env) Γ.env) _ _ s
  refine wpAny_bind (wpAny_standAt (wpAny_bind (wpAny_mono (hm s (fun it s₁ => wpAny (model prg Γ.w) Γ.A (runOwn (.forLoop (.Name x px) it body [] Γ.env) Γ.env) (fun f s' => match f with | .next => wpAny (model prg Γ.w) Γ.A (execs rest Γ.env) Q (fun e s' => may ∧ Flies Γ e s') s' | f => Q f s') (fun e s' => may ∧ Flies Γ e s') s₁) _ C ?_)
    (fun v s₁ h₁ => by rw [hs]; exact wpAny_bind (wpAny_pure (wpAny_bind (wpAny_standAt (wpAny_bind (wpAny_holding h₁)))))) fun _ _ z => z)))
  intro it o fp St s₁ I st0 C₁
  unfold runOwn
  refine wpAny_onRaise (wpAny_run ?_ (by intro y; cases y))
  have key : codeAny (model prg Γ.w) (Γ.A.mark none) (.forLoop (.Name x px) (.ref it) body [] Γ.env) (fun r s' => match r with
      | .ok f => (match f with | .next => wpAny (model prg Γ.w) Γ.A (execs rest Γ.env) Q (fun e s' => may ∧ Flies Γ e s') s' | f => Q f s')
      | .error e => may ∧ Flies Γ e s' ∧ ∃ a, e = .ref a ∧ Noted s'.heap Γ.base Γ.L a (.ref 59)) s₁ := by
    have hA : Γ.A.mark none = Γ.A := by obtain ⟨hd, d, fr, gs, u⟩ := Γ.A; rfl
    rw [hA]
    refine codeAny_forLoop (fun fuel s' => ∃ i l' n' o', fuel = N - i ∧ i ≤ N ∧ J i l' n' ∧ St i s'.heap ∧ Cx Γ l' (n' ++ [(it, o')]) s') ?_ N ⟨0, l, news, o, rfl, Nat.zero_le _, h0, st0, C₁⟩
    intro fuel s' h92
    walk_at "h"
    obtain ⟨i, l', n', o', rfl, hi, hJi, hst, Ci⟩ := h92
    walk_at "u"
    by_cases hlt : i < N
    · refine I.W.item i s' _ _ hlt hst fun v h' tk hv hst' hk => ?_
      obtain ⟨o₂, ho₂⟩ := I.at_ _ _ hst'
      have C₂ := Ci.step (post := []) (n := tk) hk ho₂
      refine wpAny_assign_Name (st_local C₂ hx (fun _ h => h) (hJ i l' n' hJi) (fun s₃ C₃ => ?_) hlo)
      refine wpAny_mono (turn i v l' n' [(it, o₂)] hlt hv hJi s₃ C₃) (fun f s₄ hf => ?_) (fun e s₄ he => ?_)
      · have fin : (∃ l₂ n₂, J (i + 1) l₂ n₂ ∧ Cx Γ l₂ (n₂ ++ [(it, o₂)]) s₄) → ∃ m, m < N - i ∧ ∃ i l' n' o', m = N - i ∧ i ≤ N ∧ J i l' n' ∧ St i s₄.heap ∧ Cx Γ l' (n' ++ [(it, o')]) s₄ := fun ⟨l₂, n₂, hJ₂, C₄⟩ =>
          ⟨N - (i + 1), by omega, i + 1, l₂, n₂, o₂, rfl, hlt, hJ₂, I.over (s := { s' with heap := h', toks := tk }) hst' C₂ C₄ (List.mem_append_right _ (.head _)) (List.mem_append_right _ (.head _)) (fun p hp => List.mem_append_left _ (hO _ _ _ hJi p hp)) (fun p hp => List.mem_append_left _ (hO _ _ _ hJ₂ p hp)), C₄⟩
        cases f with
        | next => exact fin hf
        | cont => exact fin hf
        | brk => exact hf.elim
        | ret v => exact hf
      · exact he.2.note C₃.ok (fun s₅ a ha hn hf => ⟨he.1, hf, a, ha, hn⟩) hlo
    · obtain rfl : i = N := by omega
      refine I.W.done s' _ _ hst fun h' tk hk => ?_
      have C₂ := Ci.lose (post := []) (n := tk) hk
      rw [List.append_nil] at C₂
      exact wpAny_execs_nil (k l' n' hJi _ C₂)
  refine codeAny_mono key fun r s₂ hr => ?_
  cases r with
  | ok f => cases f <;> exact hr
  | error e =>
    walk_at "h"
    obtain ⟨hmay, hf, a, ha, hn⟩ := hr
    walk_at "u"
    exact hf.own C.ok ha hn (fun s₃ hf' => ⟨hmay, hf'⟩) hlo
end
section
variable {Γ : G} {l l' : List (Str × Value)} {news news' fz : List (Addr × Obj)} {s : Shared} {rest : List Stmt} {Q : Flow → Shared → Prop}
noncomputable abbrev lstO (ys : List Value) : Obj := listOf ys.toArray ys.length
theorem comp_block {elt iter : Expr} {x : Str} {px : Pos} {scope : Scope} {cl : List (Str × Addr)} {pos : Pos} {it : Addr} {o : Obj} {own : List (Addr × Obj)} {N : Nat} {P : Nat → Value → Prop} {fp : List Addr} {St : Nat → Heap → Prop} {E : Value → Shared → Prop} {RR : Value → Addr → Result → Shared → Prop}
    (J : Nat → List Value → List (Addr × Obj) → Prop) (I : WIter Γ it own N P fp St) (st : St 0 s.heap) (C₀ : Cx Γ l (news ++ [(it, o)]) s) (h0 : J 0 [] news) (hO : ∀ i ys n, J i ys n → ∀ p ∈ own, p ∈ n) (hN : N ≤ 90000)
    (hcell : (scope.names.all fun y => y.2 != .cell) = true) (hkind : scope.kind = .function) (hx : scope.names.lookup x = some .local) (hd : (x == ("__debug__" : Str)) = false)
    (turn : ∀ i v ys n t C, i < N → P i v → J i ys n → (∀ n' p, Ev (Γ.comp scope cl C) l (n' ++ t) (.Name x p) (· = v)) → EvX (Γ.comp scope cl C) l (n ++ t) elt (fun u n' => ∃ n₁, n' = n₁ ++ t ∧ J (i + 1) (ys ++ [u]) n₁) False)
    (hRR : ∀ D C oC ys n m s', J N ys n → s'.heap.Ns C m → ys.length = N → Cx Γ l (n ++ [(D, lstO ys), (C, oC)]) s' → RR (.ref D) C (.ok .next) s') :
    wpAny (model prg Γ.w) Γ.A (newList []) (fun acc s₃ => wpAny (model prg Γ.w) Γ.A (newFunctionEnv scope Γ.env.globals cl [] Γ.env.qual none .none (some Γ.env)) (fun cenv s₄ =>
      codeAny (model prg Γ.w) Γ.A (.compStart (.ListComp elt [⟨.Name x px, iter, [], 0⟩] scope pos) 0 (.ref it) acc { cenv with scope := relabel scope Γ.env }) (RR acc cenv.locals) s₄) E s₃) E s := by
  refine wpAny_newObj_type (wpAny_newFunctionEnv (fun y hy => by have := List.all_eq_true.mp hcell y hy; simpa using this) (by intro y hy; simp at hy) (fun h₁ hns₁ hsb₁ => ?_) hkind)
  dsimp only at hns₁ hsb₁ ⊢
  have C₁ := (C₀.allocE (lstO []) rfl).allocE { cls := .type "dict", data := .dict #[] } rfl
  dsimp only at C₁
  change Heap.SameBut (s.heap.push (lstO [])).objs.size _ _ at hsb₁
  change h₁.Ns (s.heap.push (lstO [])).objs.size _ at hns₁
  show codeAny (model prg Γ.w) Γ.A (.compStart (.ListComp elt [⟨.Name x px, iter, [], 0⟩] scope pos) 0 (.ref it) (.ref s.heap.objs.size) (compEnvC scope cl (s.heap.push (lstO [])).objs.size Γ.env)) (RR (.ref s.heap.objs.size) (s.heap.push (lstO [])).objs.size) _
  generalize s.heap.objs.size = D at C₁ hsb₁ hns₁ ⊢
  generalize (s.heap.push (lstO [])).objs.size = C at C₁ hsb₁ hns₁ ⊢
  obtain ⟨oC, heC, hoC⟩ := LCg.ns_obj hns₁
  have C₂ : Cx Γ l (news ++ [(it, o), (D, lstO []), (C, oC)]) { s with heap := h₁, toks := s.toks + 0 } := by
    have z := C₁.step (post := []) (n := s.toks + 0) (fun b ob hb => hsb₁.extBut b ob (by simpa using hb)) heC
    simpa using z
  have st₁ : St 0 h₁ := I.over (s' := { s with heap := h₁, toks := s.toks + 0 }) st C₀ C₂ (List.mem_append_right _ (.head _)) (List.mem_append_right _ (.head _)) (fun p hp => List.mem_append_left _ (hO _ _ _ h0 p hp)) (fun p hp => List.mem_append_left _ (hO _ _ _ h0 p hp))
  have hCL : C ≠ Γ.L := (C₂.nw (C, oC) (List.mem_append_right _ (.tail _ (.tail _ (.head _))))).2.1
  have loop : ∀ s₃ : Shared, s₃ = { s with heap := h₁, toks := s.toks + 0 } → codeAny (model prg Γ.w) Γ.A (.compLoop (.ListComp elt [⟨.Name x px, iter, [], 0⟩] scope pos) 0 (.ref it) (.ref D) (compEnvC scope cl C Γ.env)) (RR (.ref D) C) s₃ := by
    rintro s₃ rfl
    refine codeAny_compLoop_tests (fun k s' => ∃ i ys n o oC m, k = N + 1 - i ∧ i ≤ N ∧ ys.length = i ∧ J i ys n ∧ St i s'.heap ∧ s'.heap.Ns C m ∧ Cx Γ l (n ++ [(it, o), (D, lstO ys), (C, oC)]) s') ?_ (N + 1) ⟨0, [], news, o, oC, _, rfl, Nat.zero_le _, rfl, h0, st₁, hns₁, C₂⟩
    intro k s' h92
    walk_at "h"
    obtain ⟨i, ys, n, o₁, oC₁, m, rfl, hi, hyl, hJ, hst, hns, Ci⟩ := h92
    walk_at "u"
    by_cases hlt : i < N
    · refine I.W.item i s' _ _ hlt hst fun v h₂ tk₂ hPv hst₂ hk₂ => ?_
      obtain ⟨o₂, ho₂⟩ := I.at_ _ _ hst₂
      have C₃ := Ci.step (n := tk₂) hk₂ ho₂
      have hCit : C ≠ it := by
        have nd := Ci.nd
        simp only [List.map_append, List.map_cons, List.map_nil, List.nodup_append, List.nodup_cons, List.mem_cons, List.not_mem_nil, or_false, not_or] at nd
        exact fun q => nd.2.1.1.2 q.symm
      refine wpAny_assign_Name (wpAny_storeName_local (lookup_relabel_local hx) (hns.at' fun o e => hk₂ _ o (by simpa using hCit) e) (fun h₃ hn₃ hs₃ => ?_) (by simp [compEnvC, relabel, hkind]))
      refine wpAny_tests_nil ?_
      simp only [if_true]
      obtain ⟨oC₃, heC₃, hoC₃⟩ := LCg.ns_obj hn₃
      have C₄ : Cx Γ l (n ++ [(it, o₂), (D, lstO ys), (C, oC₃)]) { s' with heap := h₃, toks := tk₂ + 1 } := by
        have z := Cx.step (pre := n ++ [(it, o₂), (D, lstO ys)]) (post := []) (d := C) (o := oC₁) (n := tk₂ + 1) (s := { s' with heap := h₂, toks := tk₂ }) (by simpa using C₃) (fun b ob hb => hs₃.extBut b ob (fun q => hb (List.mem_singleton.mpr q))) heC₃
        simpa using z
      have st₄ := I.over (s := { s' with heap := h₂, toks := tk₂ }) hst₂ C₃ C₄ (List.mem_append_right _ (.head _)) (List.mem_append_right _ (.head _)) (fun p hp => List.mem_append_left _ (hO _ _ _ hJ p hp)) (fun p hp => List.mem_append_left _ (hO _ _ _ hJ p hp))
      refine turn i v ys n [(it, o₂), (D, lstO ys), (C, oC₃)] C hlt hPv hJ (fun n' p s Q E X k => wpAny_Name (wpAny_loadName_local X.ok.kd (lookup_relabel_local hx) (hoC₃.ns (X.obj (List.mem_append_right _ (.tail _ (.tail _ (.head _)))))) (by simp) (k _ _ rfl X)) hd) _ _ _ (C₄.toComp hCL hkind) (fun u n' s₅ hu C₅ => ?_) (fun h => h.elim)
      obtain ⟨n₁, rfl, hJ'⟩ := hu
      have C₅' := C₅.ofComp Ci.ok
      have zD := C₅'.obj (List.mem_append_right n₁ (.tail _ (.head _)) : (D, lstO ys) ∈ _)
      refine append_at (hsz := by show ys.toArray.size ≤ sizeLine; rw [List.size_toArray, hyl, sizeLine_eq]; omega) zD fun h₆ hs₆ hD₆ => ?_
      have C₆ : Cx Γ l (n₁ ++ [(it, o₂), (D, lstO (ys ++ [u])), (C, oC₃)]) { s₅ with heap := h₆, toks := s₅.toks } := by
        have z := Cx.step (pre := n₁ ++ [(it, o₂)]) (post := [(C, oC₃)]) (d := D) (o := lstO ys) (o' := lstO (ys ++ [u])) (n := s₅.toks) (s := s₅) (by simpa using C₅') (fun b ob hb => hs₆.extBut b ob (by simpa using hb)) (hD₆.trans (congrArg some (LCg.lst_snoc ys u)))
        simpa using z
      refine ⟨N + 1 - (i + 1), by omega, i + 1, ys ++ [u], n₁, o₂, oC₃, _, rfl, hlt, by simp [hyl], hJ', ?_, hoC₃.ns (C₆.obj (List.mem_append_right _ (.tail _ (.tail _ (.head _))))), C₆⟩
      exact I.over (s := { s' with heap := h₃, toks := tk₂ + 1 }) st₄ C₄ C₆ (List.mem_append_right _ (.head _)) (List.mem_append_right _ (.head _)) (fun p hp => List.mem_append_left _ (hO _ _ _ hJ p hp)) (fun p hp => List.mem_append_left _ (hO _ _ _ hJ' p hp))
    · obtain rfl : i = N := by omega
      refine I.W.done s' _ _ hst fun h' tk hk => ?_
      have C₃ := Ci.lose (n := tk) hk
      obtain ⟨oC₄, e4, h4⟩ := LCg.ns_obj hns
      have : oC₄ = oC₁ := by have := Ci.obj (List.mem_append_right n (.tail _ (.tail _ (.head _))) : (C, oC₁) ∈ _); rw [e4] at this; cases this; rfl
      subst this
      exact hRR _ _ _ ys n m _ hJ (h4.ns (C₃.obj (List.mem_append_right n (.tail _ (.head _)) : (C, oC₄) ∈ _))) hyl C₃
  exact codeAny_compStart_list (loop _ rfl) (I.W.self 0 _ _ _ st₁ (loop _ rfl))
theorem evx_comp {elt iter : Expr} {x : Str} {px : Pos} {scope : Scope} {cl : List (Str × Addr)} {pos : Pos} {own : List (Addr × Obj)} {N : Nat} {P : Nat → Value → Prop} {may : Prop} (J : Nat → List Value → List (Addr × Obj) → Prop)
    (hm : MakesW Γ l news iter N P own) (h0 : J 0 [] news) (hO : ∀ i ys n, J i ys n → ∀ p ∈ own, p ∈ n) (hN : N ≤ 90000) (hclos : closureFor scope Γ.env = pure cl)
    (hcell : (scope.names.all fun y => y.2 != .cell) = true) (hkind : scope.kind = .function) (hnames : ∀ y ∈ scope.names, y.2 = .local → scope.names.lookup y.1 = some .local) (hx : scope.names.lookup x = some .local) (hd : (x == ("__debug__" : Str)) = false)
    (turn : ∀ i v ys n t C, i < N → P i v → J i ys n → (∀ n' p, Ev (Γ.comp scope cl C) l (n' ++ t) (.Name x p) (· = v)) → EvX (Γ.comp scope cl C) l (n ++ t) elt (fun u n' => ∃ n₁, n' = n₁ ++ t ∧ J (i + 1) (ys ++ [u]) n₁) False)
    (hs : ∀ v, foldedSetIterable iter Γ.env v = pure v := by intro _; rfl) :
    EvX Γ l news (.ListComp elt [⟨.Name x px, iter, [], 0⟩] scope pos) (fun v n => ∃ D ys n₁, v = .ref D ∧ n = n₁ ++ [(D, lstO ys)] ∧ J N ys n₁ ∧ ys.length = N) may := fun s Q E C k hE => by
  rw [eval_ListComp]
  refine wpAny_comprehension_free (use := none) rfl hs hclos hkind hnames (hm s _ _ C fun it o fp St s₁ I st C₁ => ?_)
  refine comp_block J I st C₁ h0 hO hN hcell hkind hx hd turn fun D Cc oC ys n m s' hJ hns hyl C' => ⟨m, hns, fun h' hs' => ?_⟩
  have C'' : Cx Γ l (n ++ [(D, lstO ys)]) { s' with heap := h' } := by
    have z := Cx.lose (pre := n ++ [(D, lstO ys)]) (post := []) (d := Cc) (o := oC) (n := s'.toks) (s := s') (by simpa using C') (fun b ob hb => hs'.extBut b ob (by simpa using hb))
    simpa using z
  exact k _ _ _ ⟨D, ys, n, rfl, rfl, hJ, hyl⟩ C''
theorem exx_assign_comp {elt iter : Expr} {x y : Str} {px py : Pos} {scope : Scope} {cl : List (Str × Addr)} {pos spos : Pos} {own : List (Addr × Obj)} {N : Nat} {P : Nat → Value → Prop} {E : Value → Shared → Prop} (J : Nat → List Value → List (Addr × Obj) → Prop)
    (hm : MakesW Γ l news iter N P own) (h0 : J 0 [] news) (hO : ∀ i ys n, J i ys n → ∀ p ∈ own, p ∈ n) (hN : N ≤ 90000) (hclos : closureFor scope Γ.env = pure cl)
    (hcell : (scope.names.all fun y => y.2 != .cell) = true) (hkind : scope.kind = .function) (hnames : ∀ y ∈ scope.names, y.2 = .local → scope.names.lookup y.1 = some .local) (hx : scope.names.lookup x = some .local) (hd : (x == ("__debug__" : Str)) = false)
    (turn : ∀ i v ys n t C, i < N → P i v → J i ys n → (∀ n' p, Ev (Γ.comp scope cl C) l (n' ++ t) (.Name x p) (· = v)) → EvX (Γ.comp scope cl C) l (n ++ t) elt (fun u n' => ∃ n₁, n' = n₁ ++ t ∧ J (i + 1) (ys ++ [u]) n₁) False)
    (hy : Γ.env.kindOf y = some .local) (hl : ∀ p ∈ l', p ∈ l) (hn : (l'.all fun p => !(p.1 == y)) = true)
    (k : ∀ D ys n₁, J N ys n₁ → ys.length = N → Ex Γ ((y, .ref D) :: l') (n₁ ++ [(D, lstO ys)]) rest Q E)
    (hsw : swapsWith (.ListComp elt [⟨.Name x px, iter, [], 0⟩] scope pos) (some (.Name y py)) spos.line Γ.env = pure true := by rfl) (hs : ∀ v, foldedSetIterable iter Γ.env v = pure v := by intro _; rfl) (hlo : Γ.env.locals = Γ.L := by rfl) :
    Ex Γ l news (.Assign [.Name y py] (.ListComp elt [⟨.Name x px, iter, [], 0⟩] scope pos) spos :: rest) Q E := fun s C => by
  refine wpAny_execs_cons ?_
  rw [exec_Assign_Name_used _ _ _ _ hsw]
  refine wpAny_bind (wpAny_standAt (wpAny_bind ?_))
  show wpAny _ Γ.A (do let _ ← comprehension (.ListComp elt [⟨.Name x px, iter, [], 0⟩] scope pos) scope Γ.env _ (newList []) false (eval iter Γ.env) (some (assign (.Name y py) Γ.env))) _ _ s
  refine wpAny_bind (wpAny_mono (wpAny_comprehension_free (use := some (assign (.Name y py) Γ.env)) (Q := fun _ s' => wpAny (model prg Γ.w) Γ.A (execs rest Γ.env) Q E s') rfl hs hclos hkind hnames (hm s _ _ C fun it o fp St s₁ I st C₁ => ?_)) (fun _ s' hq => wpAny_pure (wpAny_pure hq)) fun _ _ e => e)
  refine comp_block J I st C₁ h0 hO hN hcell hkind hx hd turn fun D Cc oC ys n m s' hJ hns hyl C' => ?_
  show wpAny _ Γ.A (assign (.Name y py) Γ.env (.ref D)) _ _ _
  have hoC : LCg.NsObj oC m := by
    obtain ⟨o₄, e4, h4⟩ := LCg.ns_obj hns
    have := C'.obj (List.mem_append_right n (.tail _ (.head _)) : (Cc, oC) ∈ _)
    rw [e4] at this; cases this; exact h4
  refine wpAny_assign_Name (st_local C' hy hl hn (fun s₂ C₂ => ?_) hlo)
  refine ⟨m, hoC.ns (C₂.obj (List.mem_append_right n (.tail _ (.head _)) : (Cc, oC) ∈ _)), fun h' hs' => ?_⟩
  have C'' : Cx Γ ((y, .ref D) :: l') (n ++ [(D, lstO ys)]) { s₂ with heap := h' } := by
    have z := Cx.lose (pre := n ++ [(D, lstO ys)]) (post := []) (d := Cc) (o := oC) (n := s₂.toks) (s := s₂) (by simpa using C₂) (fun b ob hb => hs'.extBut b ob (by simpa using hb))
    simpa using z
  exact k D ys n hJ hyl _ C''
end
def LObj (o : Obj) (items : Array Value) : Prop := o.cls = .type "list" ∧ ∃ n, o.data = .seq items n
theorem LObj.list {h : Heap} {d : Addr} {o : Obj} {items : Array Value} (x : LObj o items) (e : h.get? d = some o) : h.IsList d items := ⟨o, e, x.1, x.2⟩
theorem LObj.of {items : Array Value} {n : Nat} : LObj (listOf items n) items := ⟨rfl, n, rfl⟩
section
variable {Γ : G} {l l' : List (Str × Value)} {news news' fz own : List (Addr × Obj)} {s : Shared} {rest : List Stmt} {Q : Flow → Shared → Prop} {E : Value → Shared → Prop}
theorem makesW_list {iter : Expr} {D : Addr} {items : Array Value} (he : Ev Γ l news iter (· = .ref D)) (hD : Γ.g.IsList D items ∨ ∃ k, (D, listOf items k) ∈ own) (hown : ∀ p ∈ own, p ∈ news) : MakesW Γ l news iter items.size (fun i v => items[i]? = some v) own := fun s Q E C k =>
  he s _ E C fun v s₁ hv C₁ => by
    subst hv
    have hl : s₁.heap.IsList D items := by
      rcases hD with h | ⟨kk, h⟩
      · exact h.at fun o e => C₁.keep e
      · exact ⟨_, C₁.obj (hown _ h), rfl, _, rfl⟩
    have hlt : D < s₁.heap.objs.size := by obtain ⟨_, e, _⟩ := hl; exact Heap.lt_size e
    refine wpAny_pyIter_list hl (k _ _ [s₁.heap.objs.size, D] _ _ ⟨Walks.list C₁.ok.hh s₁.heap.objs.size D (Nat.ne_of_lt hlt) items, fun i h st => by obtain ⟨o, e, _⟩ := st.1; exact ⟨o, e⟩, fun b hb => ?_⟩ ⟨⟨_, Heap.get?_push_size _ rfl, rfl, rfl⟩, hl.push _⟩ (C₁.allocE _ rfl))
    rcases List.mem_cons.mp hb with rfl | hb
    · exact .inl rfl
    · rw [List.mem_singleton.mp hb]
      rcases hD with ⟨o, h, _⟩ | ⟨kk, h⟩
      · exact .inr (.inl ⟨o, h⟩)
      · exact .inr (.inr (List.mem_map_of_mem (f := (·.1)) h))
theorem makesW_range {iter : Expr} {a b : Int} {N : Nat} (he : ∀ (s : Shared) (Q : Value → Shared → Prop) (E : Value → Shared → Prop), Cx Γ l news s → (∀ r t u v s', Cx Γ l ((r, { cls := .type "range", data := .fields #[.int a t, .int b u, .int 1 v] }) :: news) s' → Q (.ref r) s') → wpAny (model prg Γ.w) Γ.A (eval iter Γ.env) Q E s)
    (hN : Builtin.Range.rangeSize a b 1 = (N : Int)) (hs : Builtin.Range.small a b 1 = true) : MakesW Γ l news iter N (fun i v => IsI (a + (i : Int)) v) own := fun s Q E C k =>
  he s _ E C fun r t u v s₁ C₁ => by
    refine wpAny_pyIter_range (C₁.obj (.head _)) hs ?_
    rw [hN]
    refine k _ _ [s₁.heap.objs.size] _ _ ⟨LCg.range_walks C₁.ok.hh a N, fun i h st => ⟨_, st⟩, fun b hb => .inl (List.mem_singleton.mp hb)⟩ ?_ ((C₁.drop (List.sublist_cons_self _ _)).allocE _ rfl)
    show IsRangeIter _ _ _ _ _
    simpa using Heap.get?_push_size _ rfl
theorem makesW_keys {K : Type} [DecidableEq K] {knd : KeyKind prg Γ.w K} {iter : Expr} {D : Addr} {kvs : List (K × Value)} (he : Ev Γ l news iter (· = .ref D)) (hD : SD Γ.w knd Γ.g D kvs ∨ ∃ o, (D, o) ∈ own ∧ o.IsDictOf knd kvs ∧ (D == sysModules) = false) (hown : ∀ p ∈ own, p ∈ news) :
    MakesW Γ l news iter kvs.length (fun i v => ∃ k x, kvs[i]? = some (k, x) ∧ knd.is k v = true) own := fun s Q E C k =>
  he s _ E C fun v s₁ hv C₁ => by
    subst hv
    have hl : s₁.heap.DictOf knd D kvs ∧ (D == sysModules) = false := by
      rcases hD with h | ⟨o, h, h2, h3⟩
      · exact h.keeps fun b o e => C₁.keep e
      · exact ⟨Heap.dictOf_iff.mpr ⟨o, C₁.obj (hown _ h), h2⟩, h3⟩
    obtain ⟨ep, hat⟩ := hl.1.dictAt
    have hlt : D < s₁.heap.objs.size := by obtain ⟨_, _, e, _⟩ := hat; exact Heap.lt_size e
    refine wpAny_pyIter_dict hl.2 hat (k _ _ [s₁.heap.objs.size, D] _ _ ⟨Walks.dictKeys C₁.ok.hh s₁.heap.objs.size D (Nat.ne_of_lt hlt) kvs ep, fun i h st => by obtain ⟨o, e, _⟩ := st.1; exact ⟨o, e⟩, fun b hb => ?_⟩ ⟨⟨_, Heap.get?_push_size _ rfl, rfl, rfl⟩, hat.at' fun o e => Heap.get?_push_of_some _ e⟩ (C₁.allocE _ rfl))
    rcases List.mem_cons.mp hb with rfl | hb
    · exact .inl rfl
    · rw [List.mem_singleton.mp hb]
      rcases hD with ⟨⟨o, _, _, h, _⟩, _⟩ | ⟨o, h, _⟩
      · exact .inr (.inl ⟨o, h⟩)
      · exact .inr (.inr (List.mem_map_of_mem (f := (·.1)) h))
theorem makesW_str {iter : Expr} {x : Str} (hx : x.cps.all (· < 128) = true) (he : Ev Γ l news iter (IsS x)) : MakesW Γ l news iter x.cps.size (SignAt x) own := fun s Q E C k =>
  he s _ E C fun v s₁ hv C₁ => by
    obtain ⟨t, rfl⟩ := hv
    refine wpAny_pyIter_ascii hx (k _ _ [s₁.heap.objs.size] _ _ ⟨Walks.strAscii C₁.ok.hh s₁.heap.objs.size x t, fun i h st => by obtain ⟨o, e, _⟩ := st; exact ⟨o, e⟩, fun b hb => .inl (List.mem_singleton.mp hb)⟩ ⟨_, Heap.get?_push_size _ rfl, rfl, rfl⟩ (C₁.allocE _ rfl))
theorem evx_dict0 {pos : Pos} {may : Prop} : EvX Γ l news (.Dict [] [] pos) (fun v n => ∃ d o, v = .ref d ∧ n = news ++ [(d, o)] ∧ (d == sysModules) = false ∧ (o.IsDictOf (PySem.strKind prg Γ.w) ([] : List (Str × Value)) ∧ o.IsDictOf (PySem.intKind prg Γ.w) ([] : List (Int × Value)))) may := fun s Q E C k hE => by
  obtain ⟨m, F, hm⟩ := C.fr
  refine newDict_K F C.nw C.ok.st.lim fun d h' o F' N' hlt lo a b c e => k _ _ _ ⟨d, o, rfl, rfl, lo, a, c⟩ ?_
  have C' : Cx Γ l ((d, o) :: news) { s with heap := h' } := ⟨C.ok, ⟨m, F', hm⟩, N', by
    rw [List.map_cons, List.nodup_cons]
    refine ⟨fun q => ?_, C.nd⟩
    obtain ⟨p, hp, e⟩ := List.mem_map.mp q
    exact absurd (e ▸ hlt p hp) (Nat.lt_irrefl _), C.gens, C.drawn, C.os⟩
  exact C'.perm (List.perm_append_comm (l₁ := [(d, o)]))
theorem evx_dict1 {kx vx : Expr} {pos : Pos} {key : Str} {P : Value → List (Addr × Obj) → Prop} {may : Prop} (hk : ∀ n, Ev Γ l n kx (IsS key)) (hv : ∀ d eo, EvX Γ l (news ++ [(d, eo)]) vx (fun v n => ∃ n₁, n = n₁ ++ [(d, eo)] ∧ P v n₁) may) :
    EvX Γ l news (.Dict [some kx] [vx] pos) (fun u n => ∃ d o v n₁, u = .ref d ∧ n = n₁ ++ [(d, o)] ∧ o.IsDictOf (PySem.strKind prg Γ.w) [(key, v)] ∧ (d == sysModules) = false ∧ P v n₁) may := fun s Q E C k hE => by
  obtain ⟨m, F, hm⟩ := C.fr
  have lo : (s.heap.objs.size == sysModules) = false := F.notModules (modules_low C.ok.st.lim)
  refine wpAny_Dict_walk (knd := PySem.strKind prg Γ.w) rfl rfl (by simp) (by simp) ?_
  have C₁ := C.allocE { cls := .type "dict", data := .dict #[] } rfl
  refine pairTrees_cons_walk (hk _ _ _ E C₁ fun kv s₁ hkv C₂ => hv _ _ s₁ _ E C₂ (fun v n s₂ hvv C₃ => pairTrees_nil_walk ?_) hE)
  obtain ⟨n₁, rfl, hP⟩ := hvv
  have hd0 : s₂.heap.DictOf (PySem.strKind prg Γ.w) s.heap.objs.size [] := by
    obtain ⟨o, ho, hdo⟩ := Heap.dictOf_iff.mp (Heap.DictOf.new (knd := PySem.strKind prg Γ.w) s.heap)
    rw [Heap.get?_push_size _ rfl] at ho
    cases ho
    exact Heap.dictOf_iff.mpr ⟨_, C₃.obj (List.mem_append_right _ (.head _)), hdo⟩
  refine ⟨[(key, v)], ⟨strIs hkv, rfl, trivial⟩, hd0, fun h' hd' hs' => ?_⟩
  obtain ⟨o, ho, hdo⟩ := Heap.dictOf_iff.mp hd'
  exact k _ _ _ ⟨_, o, v, n₁, rfl, rfl, hdo, lo, hP⟩ (C₃.step (post := []) (fun b ob hb => hs'.extBut b ob (by simpa using hb)) ho)
theorem exx_setdict {K : Type} [DecidableEq K] {knd : KeyKind prg Γ.w K} {o i e : Expr} {p pos : Pos} {kvs : List (K × Value)} {P : Value → List (Addr × Obj) → Prop} {R : Value → K → List (Addr × Obj) → List (Addr × Obj) → Addr → Obj → Prop} {may : Prop}
    (he : EvX Γ l news e P may) (hE : may → ∀ e s', Flies Γ e s' → E e s') (k : ∀ v n, P v n → ∃ pre d od post k, n = pre ++ (d, od) :: post ∧ od.IsDictOf knd kvs ∧ kvs.length ≤ 1000 ∧ Ev Γ l n o (· = .ref d) ∧ Ev Γ l n i (fun j => knd.is k j = true) ∧
      ∀ od', od'.IsDictOf knd (stored kvs k v) → Ex Γ l (pre ++ (d, od') :: post) rest Q E) (hs : swapsWith e (some (.Subscript o i p)) pos.line Γ.env = pure false := by rfl) : Ex Γ l news (.Assign [.Subscript o i p] e pos :: rest) Q E := fun s C => by
  refine wpAny_execs_cons (wpAny_Assign_Subscript (he s _ _ C (fun v n s₁ hv C₁ => ?_) hE) hs)
  walk_at "h"
  obtain ⟨pre, d, od, post, kk, rfl, h1, h2, h3, h4, h5⟩ := k v n hv
  walk_at "u"
  refine h3 s₁ _ _ C₁ fun ov s₂ hov C₂ => h4 s₂ _ _ C₂ fun iv s₃ hiv C₃ => ?_
  subst hov
  refine wpAny_setItem_pairs (hsz := by rw [sizeLine_eq]; exact Nat.le_trans h2 (by decide)) hiv (Heap.dictOf_iff.mpr ⟨od, C₃.obj (List.mem_append_right _ (.head _)), h1⟩) fun h' hd' hs' => ?_
  obtain ⟨od', ho, hdo⟩ := Heap.dictOf_iff.mp hd'
  exact h5 od' hdo _ (C₃.step (fun b ob hb => hs'.extBut b ob (by simpa using hb)) ho)
theorem exx_setlist {o i e : Expr} {p pos : Pos} {P : Value → List (Addr × Obj) → Prop} {may : Prop}
    (he : EvX Γ l news e P may) (hE : may → ∀ e s', Flies Γ e s' → E e s') (k : ∀ v n, P v n → ∃ pre d od items post, ∃ kk : Nat, n = pre ++ (d, od) :: post ∧ LObj od items ∧ kk < items.size ∧ items.size ≤ 1000 ∧ Ev Γ l n o (· = .ref d) ∧ Ev Γ l n i (IsI (kk : Int)) ∧
      ∀ od', LObj od' (items.setIfInBounds kk v) → Ex Γ l (pre ++ (d, od') :: post) rest Q E) (hs : swapsWith e (some (.Subscript o i p)) pos.line Γ.env = pure false := by rfl) : Ex Γ l news (.Assign [.Subscript o i p] e pos :: rest) Q E := fun s C => by
  refine wpAny_execs_cons (wpAny_Assign_Subscript (he s _ _ C (fun v n s₁ hv C₁ => ?_) hE) hs)
  walk_at "h"
  obtain ⟨pre, d, od, items, post, kk, rfl, h0, h1, h2, h3, h4, h5⟩ := k v n hv
  walk_at "u"
  refine h3 s₁ _ _ C₁ fun ov s₂ hov C₂ => h4 s₂ _ _ C₂ fun iv s₃ hiv C₃ => ?_
  subst hov
  obtain ⟨u, rfl⟩ := hiv
  refine wpAny_setItem_list (h0.list (C₃.obj (List.mem_append_right _ (.head _)))) (by omega) (by omega) (by omega) fun h' hl' hs' => ?_
  walk_at "h"
  obtain ⟨od', ho, h6, n, h7⟩ := hl'
  walk_at "u"
  exact h5 od' ⟨h6, n, by rw [h7]; rfl⟩ _ (C₃.step (n := s₃.toks) (fun b ob hb => hs'.extBut b ob (by simpa using hb)) ho)
theorem ev_arith {a b : Expr} {op : Operator} {pos : Pos} {x y r : Int} (ha : Ev Γ l news a (IsI x)) (hb : Ev Γ l news b (IsI y)) (h : ∀ t t' s (Q : Value → Shared → Prop) (E : Value → Shared → Prop), (Q (.int r s.toks) { s with toks := s.toks + 1 }) → wpAny (model prg Γ.w) Γ.A (binaryOp op (.int x t) (.int y t')) Q E s) :
    Ev Γ l news (.BinOp a op b pos) (IsI r) := fun s Q E C k =>
  wpAny_BinOp (ha s _ E C fun u s₁ hu C₁ => hb s₁ _ E C₁ fun v s₂ hv C₂ => by
    obtain ⟨t, rfl⟩ := hu
    obtain ⟨t', rfl⟩ := hv
    exact h t t' s₂ Q E (k _ _ ⟨_, rfl⟩ (C₂.tok _)))
theorem ev_add {a b : Expr} {pos : Pos} {x y : Int} (ha : Ev Γ l news a (IsI x)) (hb : Ev Γ l news b (IsI y)) : Ev Γ l news (.BinOp a .Add b pos) (IsI (x + y)) := ev_arith ha hb fun t t' s Q E h => PyProof.Rows.add_int h
theorem ev_sub' {a b : Expr} {pos : Pos} {x y : Int} (ha : Ev Γ l news a (IsI x)) (hb : Ev Γ l news b (IsI y)) : Ev Γ l news (.BinOp a .Sub b pos) (IsI (x - y)) := ev_arith ha hb fun t t' s Q E h => PyProof.Rows.sub_int h
theorem ev_mod {a b : Expr} {pos : Pos} {x y : Int} (ha : Ev Γ l news a (IsI x)) (hb : Ev Γ l news b (IsI y)) (h0 : y ≠ 0) : Ev Γ l news (.BinOp a .Mod b pos) (IsI (x.fmod y)) := ev_arith ha hb fun t t' s Q E h => PyProof.Rows.mod_int' h0 h
theorem ev_fdiv {a b : Expr} {pos : Pos} {x y : Int} (ha : Ev Γ l news a (IsI x)) (hb : Ev Γ l news b (IsI y)) (h0 : y ≠ 0) (hy : y.natAbs < 1073741824) : Ev Γ l news (.BinOp a .FloorDiv b pos) (IsI (x.fdiv y)) := ev_arith ha hb fun t t' s Q E h => PyProof.Rows.floordiv_int h0 h (.inl (PyProof.noPylong_small hy))
theorem ev_mul {a b : Expr} {pos : Pos} {x y : Int} (ha : Ev Γ l news a (IsI x)) (hb : Ev Γ l news b (IsI y)) (hy : -(2 ^ 60) ≤ y ∧ y ≤ 2 ^ 60) : Ev Γ l news (.BinOp a .Mult b pos) (IsI (x * y)) := ev_arith ha hb fun t t' s Q E h => PyProof.Rows.mul_int h (PySem.IntMulOk.of_right (PySem.intBits_le_64 (by omega) (by omega)))
end
section
variable {w : World} {A : Around} {E : Value → Shared → Prop} {s : Shared}
theorem draw_list {it t : Addr} {items : Array Value} (hne : t ≠ it) : ∀ (n i : Nat) (s : Shared) (Q : List Value → Shared → Prop), s.heap.IsListIter it t i → s.heap.IsList t items → i + n ≤ items.size →
    (∀ h', h'.IsListIter it t (i + n) → Heap.SameBut it s.heap h' → Q ((items.toList.drop i).take n) { s with heap := h' }) → wpAny (model prg w) A (draw (.ref it) n) Q E s
  | 0, i, s, Q, hit, _, _, hQ => by
    show wpAny _ _ (pure []) Q E s
    exact wpAny_pure (by simpa using hQ s.heap hit (Heap.SameBut.refl ..))
  | n + 1, i, s, Q, hit, ht, hle, hQ => by
    have hlt : i < items.size := by omega
    show wpAny _ _ (pyNext (.ref it) >>= _) Q E s
    refine wpAny_bind (wpAny_pyNext_list_item hit ht (x := items[i]) (by first | (walk_at "in"; done) | simp [hlt]) fun h₁ hit₁ hs₁ => ?_)
    refine wpAny_bind (wpAny_holding (draw_list hne n (i + 1) _ _ hit₁ (ht.extBut hs₁.extBut hne) (by omega) fun h₂ hit₂ hs₂ => wpAny_pure ?_))
    have hd : items.toList.drop i = items[i] :: items.toList.drop (i + 1) := by simp [List.drop_eq_getElem_cons, hlt]
    have := hQ h₂ (by rw [show i + (n + 1) = i + 1 + n by omega]; exact hit₂) (hs₁.trans hs₂)
    rw [hd, List.take_succ_cons] at this
    exact this
theorem unpackItems_list {t : Addr} {items : Array Value} {Q : List Value → Shared → Prop} (hh : A.handled = none) (ht : s.heap.IsList t items)
    (hQ : ∀ h', Heap.ExtBut s.heap.objs.size s.heap h' → Q items.toList { s with heap := h' }) : wpAny (model prg w) A (unpackItems (.ref t) items.size none) Q E s := by
  have hlt : t ≠ s.heap.objs.size := by obtain ⟨o, ho, _⟩ := ht; exact Nat.ne_of_lt (Heap.lt_size ho)
  unfold unpackItems
  refine wpAny_bind ?_
  unfold notIterableAtAll
  refine wpAny_bind (wpAny_specialOf ht.typeIs slot_list_iter.lookup ?_)
  refine wpAny_pure ?_
  simp only [Bool.false_eq_true, if_false]
  refine wpAny_bind (wpAny_holding (wpAny_pyIter_list ht ?_))
  refine wpAny_bind (wpAny_holding (draw_list hlt items.size 0 _ _ ⟨_, Heap.get?_push_size _ rfl, rfl, rfl⟩ (ht.push _) (by omega) fun h₁ hit₁ hs₁ => ?_))
  have hall : List.take items.size (List.drop 0 items.toList) = items.toList := by
    rw [List.drop_zero]; exact List.take_of_length_le (by simp)
  rw [hall]
  rw [if_neg (by simp)]
  have ht₁ : h₁.IsList t items := (ht.push _).extBut hs₁.extBut hlt
  refine wpAny_bind (wpAny_holding (wpAny_pyNext_list_end hh hit₁ ht₁ (by simp) fun h₂ he₂ => ?_))
  simp only [Option.isSome_none, Bool.false_eq_true, if_false]
  refine wpAny_pure (hQ h₂ fun b o hb e => he₂ b o hb (hs₁.extBut b o hb (Heap.get?_push_of_some _ e)))
theorem assign_Tuple_list {env : Env} {elts : List Expr} {x1} {pos : Pos} {t : Addr} {items : Array Value} {Q : Unit → Shared → Prop} (hh : A.handled = none) (ht : s.heap.IsList t items)
    (hn : (assignEach elts env).length = items.size) (hstar : (assignEach elts env).findIdx? (·.1) = none)
    (h : ∀ h', Heap.ExtBut s.heap.objs.size s.heap h' → wpAny (model prg w) A (assignInOrder ((assignEach elts env).map (·.2)) items.toList) Q E { s with heap := h' }) :
    wpAny (model prg w) A (assign (.Tuple elts x1 pos) env (.ref t)) Q E s := by
  rw [assign_Tuple]
  refine wpAny_bind (wpAny_standAt ?_)
  unfold unpack
  rw [hn, hstar]
  exact wpAny_bind (wpAny_holding (unpackItems_list hh ht h))
end
section
variable {Γ : G} {l l' : List (Str × Value)} {news news' fz own : List (Addr × Obj)} {s : Shared} {rest : List Stmt} {Q : Flow → Shared → Prop} {E : Value → Shared → Prop}
theorem Cx.extNew (C : Cx Γ l news s) {h' : Heap} (hs : Heap.ExtBut s.heap.objs.size s.heap h') : Cx Γ l news { s with heap := h' } := by
  obtain ⟨m, F, hm⟩ := C.fr
  exact ⟨C.ok, ⟨m, F.extBut hs (Nat.le_refl _), hm⟩, C.nw.extBut hs (Nat.le_refl _), C.nd, C.gens, C.drawn, C.os⟩
theorem ex_unpack3 {x1 x2 x3 : Str} {p1 p2 p3 tp pos : Pos} {kk : Nat} {e : Expr} {P : Value → Value → Value → List (Addr × Obj) → Prop} {may : Prop}
    (h : EvX Γ l news e (fun v n => ∃ t a b c, v = .ref t ∧ ((∀ s, Cx Γ l n s → IsTup s.heap t #[a, b, c]) ∨ (∀ s, Cx Γ l n s → s.heap.IsList t #[a, b, c])) ∧ P a b c n) may) (hE : may → ∀ e s', Flies Γ e s' → E e s')
    (h1 : Γ.env.kindOf x1 = some .local) (h2 : Γ.env.kindOf x2 = some .local) (h3 : Γ.env.kindOf x3 = some .local) (hl : ∀ p ∈ l', p ∈ l)
    (n1 : (l'.all fun p => !(p.1 == x1)) = true) (n2 : (l'.all fun p => !(p.1 == x2)) = true) (n3 : (l'.all fun p => !(p.1 == x3)) = true) (hd : ((x1 == x2) || (x1 == x3) || (x2 == x3)) = false)
    (k : ∀ a b c n, P a b c n → Ex Γ ((x3, c) :: (x2, b) :: (x1, a) :: l') n rest Q E)
    (hs : swapsWithSole [.Tuple [.Name x1 p1, .Name x2 p2, .Name x3 p3] kk tp] e pos.line Γ.env = pure false := by rfl) (hw : swappedStores [.Tuple [.Name x1 p1, .Name x2 p2, .Name x3 p3] kk tp] e Γ.env = pure none := by rfl)
    (ha : (assignEach [.Name x1 p1, .Name x2 p2, .Name x3 p3] Γ.env) = [(false, assign (.Name x1 p1) Γ.env), (false, assign (.Name x2 p2) Γ.env), (false, assign (.Name x3 p3) Γ.env)] := by rfl) (hlo : Γ.env.locals = Γ.L := by rfl) :
    Ex Γ l news (.Assign [.Tuple [.Name x1 p1, .Name x2 p2, .Name x3 p3] kk tp] e pos :: rest) Q E := fun s C =>
  wpAny_execs_cons (Assign_Tuple (h s _ E C (fun v n s₁ hv C₁ => by
    walk_at "h"
    obtain ⟨t, a, b, c, rfl, ht, hP⟩ := hv
    walk_at "u"
    simp only [Bool.or_eq_false_iff] at hd
    obtain ⟨⟨d12, d13⟩, d23⟩ := hd
    have fin : ∀ h', Cx Γ l n { s₁ with heap := h' } → wpAny (model prg Γ.w) Γ.A (assignInOrder ((assignEach [.Name x1 p1, .Name x2 p2, .Name x3 p3] Γ.env).map (·.2)) [a, b, c]) (fun _ => (fun s' => wpAny (model prg Γ.w) Γ.A (execs rest Γ.env) Q E s')) E { s₁ with heap := h' } := fun h' C₂ => by
      rw [ha]
      refine assignInOrder_cons (assign_Name (st_local C₂ h1 hl n1 (fun s₃ C₃ => ?_) hlo))
      refine assignInOrder_cons (assign_Name (st_local C₃ h2 (fun _ h => h) (by rw [List.all_cons, n2, d12]; rfl) (fun s₄ C₄ => ?_) hlo))
      exact assignInOrder_cons (assign_Name (st_local C₄ h3 (fun _ h => h) (by rw [List.all_cons, List.all_cons, n3, d13, d23]; rfl) (fun s₅ C₅ => assignInOrder_nil (k a b c n hP s₅ C₅)) hlo))
    rcases ht with ht | ht
    · exact assign_Tuple_tuple C.ok.hh (ht s₁ C₁) (by rw [ha]; rfl) (by rw [ha]; rfl) fun h' he => fin h' (C₁.extNew he)
    · exact assign_Tuple_list C.ok.hh (ht s₁ C₁) (by rw [ha]; rfl) (by rw [ha]; rfl) fun h' he => fin h' (C₁.extNew he)) hE) hs hw)
end
def IntsV (vs : List Value) (cs : List Int) : Prop := vs.length = cs.length ∧ ∀ (i : Nat) v c, vs[i]? = some v → cs[i]? = some c → IsI c v
structure SrcF (g : Heap) (ca : Addr) : Prop where
  cells : ∃ vs cs, g.IsList ca vs.toArray ∧ IntsV vs cs ∧ cs ≠ [] ∧ cs.length ≤ 1000
theorem SrcF.keeps {h h' : Heap} {ca : Addr} (u : SrcF h ca) (k : ∀ b o, h.get? b = some o → h'.get? b = some o) : SrcF h' ca := let ⟨vs, cs, a, b, c, d⟩ := u.cells; ⟨vs, cs, isList_keeps a k, b, c, d⟩
def SrcO (ca : Addr) (place : Nat) (o : Obj) : Prop := ∃ rest t t', LObj o #[.ref ca, .int rest t, .int (place : Int) t']
theorem take_law {w : World} {so ca : Addr} {oS : Obj} {place lim : Nat} {t : Tok} (hp : place ≤ 100000) (hl : 0 < lim ∧ lim ≤ 1000) (hS : SrcO ca place oS) :
    Ct w F_law_take.f [.ref so, .int (lim : Int) t] (fun g => SrcF g ca) [(so, oS)] (fun v n => ∃ j : Nat, IsI (j : Int) v ∧ j < lim ∧ ∃ o', n = [(so, o')] ∧ SrcO ca (place + 1) o') False 1 := by
  refine ct_def (F := F_law_take) (binds := [(Str.ofString "source", .ref so), (Str.ofString "limit", .int (lim : Int) t)]) (k := 0) G_law_take (by kernel_rfl) (by kernel_rfl) (by kernel_rfl) fun A s₀ g L outer base hf rm => ?_
  walk_at "h"
  obtain ⟨vs, cs, hcl, hiv, hne, hcz⟩ := hf.cells
  walk_at "u"
  walk_at "h"
  obtain ⟨rst, tr, tp, hO⟩ := hS
  walk_at "u"
  conv => { arg 4; whnf }
  refine ex_unpack3 (l' := [(Str.ofString "source", .ref so), (Str.ofString "limit", .int (lim : Int) t)]) (P := fun a b c n => a = .ref ca ∧ b = .int rst tr ∧ c = .int (place : Int) tp ∧ n = [(so, oS)]) (may := False) (EvX.mono (evx_of (by walk_at "nm" : Ev _ _ _ _ (· = .ref so))) fun v n h => by
      obtain ⟨rfl, rfl⟩ := h
      exact ⟨so, _, _, _, rfl, .inr fun s C => hO.list (C.obj (.head _)), rfl, rfl, rfl, rfl⟩) (fun h => h.elim) (by kernel_rfl) (by kernel_rfl) (by kernel_rfl) (by walk_at "sub") (by kernel_rfl) (by kernel_rfl) (by kernel_rfl) (by kernel_rfl) fun a b c n hP => ?_
  obtain ⟨rfl, rfl, rfl, rfl⟩ := hP
  refine exx_setlist (P := fun v n => IsI ((place + 1 : Nat) : Int) v ∧ n = [(so, oS)]) (may := False) (evx_of (ev_add (ev_nameP (P := IsI (place : Int)) (by walk_at "mem") ⟨_, rfl⟩) (ev_int (x := 1)))) (fun h => h.elim) (hide2 fun _ u9 v n hv => ?_)
  obtain ⟨⟨tv, rfl⟩, rfl⟩ := hv
  refine u9 _ _ ?_; clear u9
  refine ⟨[], so, oS, _, [], 2, rfl, hO, by simp, by simp, by walk_at "nm", ev_int (x := 2), fun o1 hO1 => ?_⟩
  rw [show (#[Value.ref ca, .int rst tr, .int (place : Int) tp] : Array Value).setIfInBounds 2 (.int ((place + 1 : Nat) : Int) tv) = #[Value.ref ca, .int rst tr, .int ((place + 1 : Nat) : Int) tv] from rfl] at hO1
  have hlim : (lim : Int) ≠ 0 := by omega
  have hNl : ∀ {l : List (Str × Value)} {news : List (Addr × Obj)} {p : Pos}, (Str.ofString "limit", Value.int (lim : Int) t) ∈ l → Ev ⟨w, A, s₀, g, L, outer, base, F_law_take.env L⟩ l news (.Name "limit" p) (IsI (lim : Int)) := fun hm => ev_nameP (P := IsI (lim : Int)) hm ⟨_, rfl⟩
  by_cases hr : 0 < rst
  · refine ex_if_t (ist_cmp (ev_nameP (P := IsI rst) (by walk_at "mem") ⟨_, rfl⟩) (ev_int (x := 0)) (cmp_int (by simp [icmp, hr]))) ?_
    refine exx_setlist (P := fun v n => IsI (rst.fdiv lim) v ∧ n = [(so, o1)]) (may := False) (evx_of (ev_fdiv (ev_nameP (P := IsI rst) (by walk_at "mem") ⟨_, rfl⟩) (hNl (by walk_at "mem")) hlim (by omega))) (fun h => h.elim) (hide2 fun _ u9 v n hv => ?_)
    obtain ⟨⟨tv2, rfl⟩, rfl⟩ := hv
    refine u9 _ _ ?_; clear u9
    refine ⟨[], so, o1, _, [], 1, rfl, hO1, by simp, by simp, by walk_at "nm", ev_int (x := 1), fun o2 hO2 => ?_⟩
    rw [show (#[Value.ref ca, .int rst tr, .int ((place + 1 : Nat) : Int) tv] : Array Value).setIfInBounds 1 (.int (rst.fdiv lim) tv2) = #[Value.ref ca, .int (rst.fdiv lim) tv2, .int ((place + 1 : Nat) : Int) tv] from rfl] at hO2
    refine ex_ret (ev_mod (ev_nameP (P := IsI rst) (by walk_at "mem") ⟨_, rfl⟩) (hNl (by walk_at "mem")) hlim) fun v s hv C => ⟨_, _, C, (rst.fmod lim).toNat, ?_, ?_, o2, rfl, _, _, _, hO2⟩
    · have := Int.fmod_nonneg_of_pos rst (show (0 : Int) < lim by omega)
      rw [Int.toNat_of_nonneg this]; exact hv
    · have h1 := Int.fmod_nonneg_of_pos rst (show (0 : Int) < lim by omega)
      have h2 := Int.fmod_lt_of_pos rst (show (0 : Int) < lim by omega)
      omega
  · refine ex_if_f (ist_cmp (ev_nameP (P := IsI rst) (by walk_at "mem") ⟨_, rfl⟩) (ev_int (x := 0)) (cmp_int (by simp [icmp, hr]))) ?_
    have hlen : 0 < vs.length := by rw [hiv.1]; exact List.length_pos_iff.mpr hne
    have hlz : (vs.length : Int) ≠ 0 := by omega
    have hll : vs.length ≤ 1000 := by rw [hiv.1]; exact hcz
    have hkl : place % vs.length < vs.length := Nat.mod_lt _ hlen
    obtain ⟨c, hc⟩ : ∃ c, cs[place % vs.length]? = some c := ⟨cs[place % vs.length]'(by rw [← hiv.1]; exact hkl), by simp⟩
    obtain ⟨x, hx⟩ : ∃ x, vs[place % vs.length]? = some x := ⟨vs[place % vs.length], by simp⟩
    have hcx : IsI c x := hiv.2 _ _ _ hx hc
    have hls : ∀ {l : List (Str × Value)} {news : List (Addr × Obj)} s, Cx ⟨w, A, s₀, g, L, outer, base, F_law_take.env L⟩ l news s → s.heap.IsList ca vs.toArray := fun s C => isList_keeps hcl fun b o => C.keep
    have hP : ∀ {l : List (Str × Value)} {news : List (Addr × Obj)} {p : Pos}, (Str.ofString "place", Value.int (place : Int) tp) ∈ l → Ev ⟨w, A, s₀, g, L, outer, base, F_law_take.env L⟩ l news (.Name "place" p) (IsI (place : Int)) := fun hm => ev_nameP (P := IsI (place : Int)) hm ⟨_, rfl⟩
    have hLen : ∀ {l : List (Str × Value)} {news : List (Addr × Obj)} {p1 p2 p3 : Pos}, (Str.ofString "cells", Value.ref ca) ∈ l → Ev ⟨w, A, s₀, g, L, outer, base, F_law_take.env L⟩ l news (.Call (.Name "len" p1) [.Name "cells" p2] [] p3) (IsI (vs.length : Int)) := fun hm =>
      ev_b1 (ev_bltn (b_len _) (b_len' _)) (ev_name (v := .ref ca) hm) fun v hv => by subst hv; exact len_list' hls (by omega)
    have e1 : ((place : Int).fmod (vs.length : Int)) = ((place % vs.length : Nat) : Int) := by rw [Int.fmod_eq_emod_of_nonneg _ (by omega)]; rfl
    refine ex_ret (ev_mod (ev_add (Run.mono (R := IsI c) (ev_sub (by walk_at "nm" : Ev _ _ _ _ (· = Value.ref ca)) (Run.mono (R := IsI ((place % vs.length : Nat) : Int)) (ev_mod (hP (by walk_at "mem")) (hLen (by walk_at "mem")) hlz) fun v hv => e1 ▸ hv) (sub_list (k := place % vs.length) hls hx (by omega))) fun v hv => hv ▸ hcx)
      (ev_fdiv (ev_mul (ev_fdiv (hP (by walk_at "mem")) (hLen (by walk_at "mem")) hlz (by omega)) (ev_add (ev_mul (ev_int (x := 3)) (hP (by walk_at "mem")) (by omega)) (ev_int (x := 5))) (by omega)) (ev_int (x := 2)) (by decide) (by decide))) (hNl (by walk_at "mem")) hlim) fun v s hv C => ⟨_, _, C, (Int.fmod (c + ((place : Int).fdiv (vs.length : Int) * (3 * (place : Int) + 5)).fdiv 2) lim).toNat, ?_, ?_, o1, rfl, _, _, _, hO1⟩
    · have := Int.fmod_nonneg_of_pos (c + ((place : Int).fdiv (vs.length : Int) * (3 * (place : Int) + 5)).fdiv 2) (show (0 : Int) < lim by omega)
      rw [Int.toNat_of_nonneg this]; exact hv
    · have h1 := Int.fmod_nonneg_of_pos (c + ((place : Int).fdiv (vs.length : Int) * (3 * (place : Int) + 5)).fdiv 2) (show (0 : Int) < lim by omega)
      have h2 := Int.fmod_lt_of_pos (c + ((place : Int).fdiv (vs.length : Int) * (3 * (place : Int) + 5)).fdiv 2) (show (0 : Int) < lim by omega)
      omega
def AllR {α β : Type} (R : α → β → Prop) : List α → List β → Prop
  | [], [] => True
  | a :: as, b :: bs => R a b ∧ AllR R as bs
  | _, _ => False
theorem AllR.length {α β : Type} {R : α → β → Prop} : ∀ {as : List α} {bs : List β}, AllR R as bs → as.length = bs.length
  | [], [], _ => rfl
  | _ :: _, _ :: _, h => by simp [AllR.length h.2]
theorem AllR.get {α β : Type} {R : α → β → Prop} : ∀ {as : List α} {bs : List β}, AllR R as bs → ∀ (i : Nat) a b, as[i]? = some a → bs[i]? = some b → R a b
  | _ :: _, _ :: _, h, 0, a, b, h1, h2 => by cases h1; cases h2; exact h.1
  | _ :: _, _ :: _, h, i + 1, a, b, h1, h2 => AllR.get h.2 i a b (by simpa using h1) (by simpa using h2)
theorem AllR.snoc {α β : Type} {R : α → β → Prop} {a : α} {b : β} : ∀ {as : List α} {bs : List β}, AllR R as bs → R a b → AllR R (as ++ [a]) (bs ++ [b])
  | [], [], _, h => ⟨h, trivial⟩
  | _ :: _, _ :: _, h, h' => ⟨h.1, AllR.snoc h.2 h'⟩
theorem AllR.app {α β : Type} {R : α → β → Prop} {cs : List α} {ds : List β} : ∀ {as : List α} {bs : List β}, AllR R as bs → AllR R cs ds → AllR R (as ++ cs) (bs ++ ds)
  | [], [], _, h => h
  | _ :: _, _ :: _, h, h' => ⟨h.1, AllR.app h.2 h'⟩
theorem AllR.mono {α β : Type} {R R' : α → β → Prop} (k : ∀ a b, R a b → R' a b) : ∀ {as : List α} {bs : List β}, AllR R as bs → AllR R' as bs
  | [], [], _ => trivial
  | _ :: _, _ :: _, h => ⟨k _ _ h.1, AllR.mono k h.2⟩
def Letter (c : Str) : Prop := c = "A" ∨ c = "B"
theorem Letter.len {c : Str} (h : Letter c) : c.length ≤ 100 := by rcases h with rfl | rfl <;> decide
section
variable {Γ : G} {l l' : List (Str × Value)} {news news' fz own : List (Addr × Obj)} {s : Shared} {rest : List Stmt} {Q : Flow → Shared → Prop} {E : Value → Shared → Prop}
theorem evx_addI {a b : Expr} {pos : Pos} {x : Int} {R : Int → List (Addr × Obj) → Prop} {may : Prop} (ha : Ev Γ l news a (IsI x)) (hb : EvX Γ l news b (fun v n => ∃ y, IsI y v ∧ R y n) may) : EvX Γ l news (.BinOp a .Add b pos) (fun v n => ∃ y, IsI (x + y) v ∧ R y n) may := fun s Q E C k hE =>
  wpAny_BinOp (ha s _ E C fun u s₁ hu C₁ => hb s₁ _ E C₁ (fun v n s₂ hv C₂ => by
    obtain ⟨t, rfl⟩ := hu
    walk_at "h"
    obtain ⟨y, ⟨t', rfl⟩, hR⟩ := hv
    walk_at "u"
    exact PyProof.Rows.add_int (k _ _ _ ⟨y, ⟨_, rfl⟩, hR⟩ (C₂.tok _))) hE)
theorem evx_gtI {a b : Expr} {pos : Pos} {y : Int} {R : Int → List (Addr × Obj) → Prop} {may : Prop} (ha : EvX Γ l news a (fun v n => ∃ x, IsI x v ∧ R x n) may) (hb : ∀ n, Ev Γ l n b (IsI y)) (hm : behindInMarks .Gt b = false := by rfl) : EvX Γ l news (.Compare a [.Gt] [b] pos) (fun v n => ∃ x, v = .bool (decide (x > y)) ∧ R x n) may := fun s Q E C k hE =>
  wpAny_Compare1 (ha s _ E C (fun u n s₁ hu C₁ => hb n s₁ _ E C₁ fun v s₂ hv C₂ => by
    walk_at "h"
    obtain ⟨x, ⟨t, rfl⟩, hR⟩ := hu
    walk_at "u"
    obtain ⟨t', rfl⟩ := hv
    exact PyProof.Rows.gt_int (k _ _ _ ⟨x, rfl, hR⟩ C₂)) hE) hm
theorem evx_sub {e i : Expr} {pos : Pos} {P S : Value → Prop} {R : Value → List (Addr × Obj) → Prop} {may : Prop} (he : Ev Γ l news e P) (hi : EvX Γ l news i R may) (ht : ∀ o k n, P o → R k n → Run Γ l n (subscriptTail e i o k) (fun v => S v)) : EvX Γ l news (.Subscript e i pos) (fun v n => S v ∧ ∃ k, R k n) may := fun s Q E C k hE =>
  Subscript_ (he s _ E C fun o s₁ ho C₁ => hi s₁ _ E C₁ (fun j n s₂ hj C₂ => ht o j n ho hj s₂ Q E C₂ fun v s₃ hv C₃ => k v n s₃ ⟨hv, j, hj⟩ C₃) hE)
theorem sub_str {e i : Expr} {x : Str} {k c : Nat} (hc : x.cps[k]? = some c) (hs : x.length ≤ 1000) (hs' : ∀ t u, subscripted i false (.str x t) (.int (k : Int) u) = operate [.str x t, .int (k : Int) u] (getItem (.str x t) (.int (k : Int) u)) := by intro _ _; with_unfolding_all rfl) :
    ∀ o j, IsS x o → IsI (k : Int) j → Run Γ l news (subscriptTail e i o j) (IsS ⟨#[c]⟩) := by
  rintro _ _ ⟨t, rfl⟩ ⟨u, rfl⟩
  have hlt : k < x.cps.size := (Array.getElem?_eq_some_iff.mp hc).1
  have hlt' : k < x.length := hlt
  exact fun s Q E C q => PyProof.Rows.tail_any (typeIs_str s x t) PyProof.Rows.slot_str_getitem.lookup (PyProof.Rows.getItem_str (by simp; omega) (by
    have : seqIndex? (k : Int) x.length = some k := by unfold seqIndex?; simp; omega
    rw [this]; exact hc) (q _ _ ⟨_, rfl⟩ (C.tok _))) (hs' t u)
theorem range_n (N : Nat) : Builtin.Range.rangeSize 0 (N : Int) 1 = (N : Int) := by unfold Builtin.Range.rangeSize; simp; omega
theorem fits_long (i : Int) (h0 : 0 ≤ i) (h1 : i ≤ 1000) : Builtin.Range.rangeFitsLong i = true := by
  unfold Builtin.Range.rangeFitsLong
  rw [Bool.and_eq_true, decide_eq_true_eq, decide_eq_true_eq]
  constructor <;> omega
theorem range_small {N : Nat} (h : N ≤ 1000) : Builtin.Range.small 0 (N : Int) 1 = true := by
  unfold Builtin.Range.small
  rw [range_n, if_pos (by decide), fits_long 0 (by omega) (by omega), fits_long (N : Int) (by omega) (by omega), fits_long 1 (by omega) (by omega), fits_long ((N : Int) + (1 - 1)) (by omega) (by omega)]
  simp
def MakesX (Γ : G) (l : List (Str × Value)) (news : List (Addr × Obj)) (iter : Expr) (P : Nat → Value → Prop) (own : List (Addr × Obj)) (R : Nat → List (Addr × Obj) → Prop) : Prop :=
  ∀ s (Q : Value → Shared → Prop) (E : Value → Shared → Prop), Cx Γ l news s → (∀ N it o fp St n' s', R N n' → N ≤ 1000 → WIter Γ it own N P fp St → St 0 s'.heap → Cx Γ l (n' ++ [(it, o)]) s' → Q (.ref it) s') →
    wpAny (model prg Γ.w) Γ.A (eval iter Γ.env) (fun x s₁ => wpAny (model prg Γ.w) Γ.A (pyIter x) Q E s₁) E s
theorem makesX_range1 {fe e : Expr} {pos : Pos} {R : Nat → List (Addr × Obj) → Prop} (hf : Ev Γ l news fe (· = .type "range")) (he : EvX Γ l news e (fun v n => ∃ N : Nat, IsI (N : Int) v ∧ R N n ∧ N ≤ 1000) False)
    (hst : starEach (e :: []) Γ.env = (false, eval e Γ.env) :: starEach [] Γ.env := by rfl)
    (hc' : eval (.Call fe [e] [] pos) Γ.env = (do callWith pos (← eval fe Γ.env) [] (backTo pos (starEach [e] Γ.env)) (backToKw pos (keywordEach [] Γ.env))) := by rfl) : MakesX Γ l news (.Call fe [e] [] pos) (fun i v => IsI (0 + ((i : Nat) : Int)) v) own R := fun s Q E C k =>
  Call_ (hf s _ E C fun v s' hv C' => by
    subst hv
    refine PyProof.Rows.callWith_type1 (spliced_more (he s' _ E C' (fun v n s₂ hv C₂ => spliced_none ?_) (fun h => h.elim)) hst) hst (by rfl)
    walk_at "h"
    obtain ⟨N, ⟨u, rfl⟩, hR, hN⟩ := hv
    walk_at "u"
    refine call_range_1 ?_
    have C₃ := ((C₂.alloc { cls := .type "range", data := .fields #[.int 0 (s₂.toks), .int (N : Int) u, .int 1 (s₂.toks + 1)] } rfl).tok (s₂.toks + 1 + 1))
    refine wpAny_pyIter_range (C₃.obj (.head _)) (range_small hN) ?_
    rw [range_n]
    have C₄ := (C₃.drop (List.sublist_cons_self _ _)).allocE { cls := .type "range_iterator", data := .fields #[rawInt 0, rawInt (N : Int), rawInt 1] } rfl
    refine k N _ _ _ _ n _ hR hN ⟨LCg.range_walks C₃.ok.hh 0 N, fun i h st => ⟨_, st⟩, fun b hb => .inl (List.mem_singleton.mp hb)⟩ ?_ C₄
    have z := C₄.obj (List.mem_append_right n (.head _))
    show IsRangeIter _ _ _ _ _
    simpa using z) hc'
theorem evx_compX {elt iter : Expr} {x : Str} {px : Pos} {scope : Scope} {cl : List (Str × Addr)} {pos : Pos} {own : List (Addr × Obj)} {P : Nat → Value → Prop} {R : Nat → List (Addr × Obj) → Prop} {may : Prop} (J : Nat → Nat → List Value → List (Addr × Obj) → Prop)
    (hm : MakesX Γ l news iter P own R) (h0 : ∀ N n, R N n → J N 0 [] n) (hO : ∀ N i ys n, J N i ys n → ∀ p ∈ own, p ∈ n) (hclos : closureFor scope Γ.env = pure cl)
    (hcell : (scope.names.all fun y => y.2 != .cell) = true) (hkind : scope.kind = .function) (hnames : ∀ y ∈ scope.names, y.2 = .local → scope.names.lookup y.1 = some .local) (hx : scope.names.lookup x = some .local) (hd : (x == ("__debug__" : Str)) = false)
    (turn : ∀ N i v ys n t C, i < N → P i v → J N i ys n → (∀ n' p, Ev (Γ.comp scope cl C) l (n' ++ t) (.Name x p) (· = v)) → EvX (Γ.comp scope cl C) l (n ++ t) elt (fun u n' => ∃ n₁, n' = n₁ ++ t ∧ J N (i + 1) (ys ++ [u]) n₁) False)
    (hs : ∀ v, foldedSetIterable iter Γ.env v = pure v := by intro _; rfl) :
    EvX Γ l news (.ListComp elt [⟨.Name x px, iter, [], 0⟩] scope pos) (fun v n => ∃ N D ys n₁, v = .ref D ∧ n = n₁ ++ [(D, lstO ys)] ∧ J N N ys n₁ ∧ ys.length = N) may := fun s Q E C k hE => by
  rw [eval_ListComp]
  refine wpAny_comprehension_free (use := none) rfl hs hclos hkind hnames (hm s _ _ C fun N it o fp St n₀ s₁ hR hN I st C₁ => ?_)
  refine comp_block (J N) I st C₁ (h0 N _ hR) (hO N) (Nat.le_trans hN (by decide)) hcell hkind hx hd (turn N) fun D Cc oC ys n m s' hJ hns hyl C' => ⟨m, hns, fun h' hs' => ?_⟩
  have C'' : Cx Γ l (n ++ [(D, lstO ys)]) { s' with heap := h' } := by
    have z := Cx.lose (pre := n ++ [(D, lstO ys)]) (post := []) (d := Cc) (o := oC) (n := s'.toks) (s := s') (by simpa using C') (fun b ob hb => hs'.extBut b ob (by simpa using hb))
    simpa using z
  exact k _ _ _ ⟨N, D, ys, n, rfl, rfl, hJ, hyl⟩ C''
end
theorem names_of {scope : Scope} (h : (scope.names.all fun y => y.2 != .local || scope.names.lookup y.1 == some .local) = true) : ∀ y ∈ scope.names, y.2 = .local → scope.names.lookup y.1 = some .local := fun y hy e => by
  have := List.all_eq_true.mp h y hy
  rw [e] at this
  simpa using this
theorem k929 (P : Params) : (KL P).lookup F_law_wishes.f = some F_law_wishes.obj := by kernel_rfl
theorem c929 (P : Params) : codeIn (KL P) (.ref F_law_wishes.code) (Str.ofString F_law_wishes.qn) = true := by kernel_rfl
theorem law_wishes {w : World} {so ca : Addr} {oS : Obj} {place lim few : Nat} {t t' : Tok} (hp : place ≤ 90000) (hl : 0 < lim ∧ lim ≤ 100) (hfew : few ≤ 100) (hS : SrcO ca place oS) :
    Ct w F_law_wishes.f [.ref so, .int (lim : Int) t, .int (few : Int) t'] (fun g => SrcF g ca) [(so, oS)] (fun v n => ∃ D ys ws oS', v = .ref D ∧ n = [(so, oS'), (D, lstO ys)] ∧ AllR (fun y w => IsS w y) ys ws ∧ (∀ c ∈ ws, Letter c) ∧ few ≤ ws.length ∧ ws.length < few + lim ∧ SrcO ca (place + 1 + ws.length) oS') False 3 := by
  refine ct_defC (F := F_law_wishes) (x := "source") (v := some (.ref so)) (binds := [(Str.ofString "source", .ref so), (Str.ofString "limit", .int (lim : Int) t), (Str.ofString "few", .int (few : Int) t')]) (loc := [(Str.ofString "limit", .int (lim : Int) t), (Str.ofString "few", .int (few : Int) t')]) (k := 2)
    (k929 _) (c929 _) (by kernel_rfl) (fun n => by rfl) ?_ ?_ ?_ (by kernel_rfl) (by kernel_rfl) (by kernel_rfl) fun A s₀ g L outer base oc hf rm ho => ?_
  · intro n y hy
    simp only [List.mem_cons, List.not_mem_nil, or_false] at hy
    rcases hy with rfl | rfl | rfl
    · exact .inr ⟨by kernel_rfl, by rfl⟩
    · exact .inl (by kernel_rfl)
    · exact .inl (by kernel_rfl)
  · intro L q hq
    simp only [List.mem_cons, List.not_mem_nil, or_false] at hq
    rcases hq with rfl | rfl <;> kernel_rfl
  · intro L; kernel_rfl
  refine Ex.perm (news' := [(so, oS), (L + 1, oc)]) ?_ (List.Perm.swap _ _ _)
  conv => { arg 4; whnf }
  refine exx_ret (may := False) (evx_compX (own := []) (P := fun i v => IsI (0 + ((i : Nat) : Int)) v) (R := fun N n => ∃ oS', n = [(so, oS'), (L + 1, oc)] ∧ SrcO ca (place + 1) oS' ∧ few ≤ N ∧ N < few + lim)
    (fun N i ys n => ∃ oS' ws, n = [(so, oS'), (L + 1, oc)] ∧ SrcO ca (place + 1 + i) oS' ∧ AllR (fun y w => IsS w y) ys ws ∧ (∀ c ∈ ws, Letter c) ∧ few ≤ N ∧ N < few + lim)
    (makesX_range1 (ev_bltn (b_range _) (b_range' _)) (EvX.mono (evx_addI (R := fun y n => ∃ j : Nat, y = (j : Int) ∧ j < lim ∧ ∃ oS', n = [(so, oS'), (L + 1, oc)] ∧ SrcO ca (place + 1) oS') (ev_nameP (P := IsI (few : Int)) (by walk_at "mem") ⟨_, rfl⟩)
      (EvX.mono (evx_call (f := 0) G_law_take (ev_glob (g_law_take _)) (evs_cons (ev_cell (v := .ref so) (by walk_at "mem") ho) (evs_cons (by walk_at "nm" : Ev _ _ _ _ (· = Value.int (lim : Int) t)) evs_nil))
        (P := fun v n => ∃ n₁, n = n₁ ++ [(L + 1, oc)] ∧ ∃ j : Nat, IsI (j : Int) v ∧ j < lim ∧ ∃ o', n₁ = [(so, o')] ∧ SrcO ca (place + 1) o') (hide1 fun _ u9 vs hv => ?tk)) ?m1)) ?m2))
    ?h0 (fun _ _ _ _ _ p hp => nomatch hp) (by rfl) (by kernel_rfl) (by kernel_rfl) (names_of (by kernel_rfl)) (by kernel_rfl) (by kernel_rfl) ?turn) (fun h => h.elim) fun v n s hv C => ?fin
  case tk =>
    obtain ⟨_, rfl, _, ⟨_, rfl, _, rfl, rfl⟩, rfl⟩ := hv
    refine u9 _ ?_; clear u9
    exact Ct.use1 (news := [(so, oS)]) (fz := [(L + 1, oc)]) (take_law (by omega) ⟨hl.1, by omega⟩ hS) (rm.le (by decide)) hf fun h h' u k => u.keeps k
  case m1 =>
    refine hide2 fun _ u9 => ?_
    rintro v n ⟨n₁, rfl, j, h1, h2, o', rfl, h3⟩
    refine u9 _ _ ?_; clear u9
    exact ⟨(j : Int), h1, j, rfl, h2, o', rfl, h3⟩
  case m2 =>
    refine hide2 fun _ u9 => ?_
    rintro v n ⟨y, h1, j, rfl, h2, o', rfl, h3⟩
    refine u9 _ _ ?_; clear u9
    exact ⟨few + j, by rw [Int.natCast_add]; exact h1, ⟨o', rfl, h3, by omega, by omega⟩, by omega⟩
  case h0 =>
    refine hide2 fun _ u9 => ?_
    rintro N n ⟨oS', rfl, h1, h2, h3⟩
    refine u9 _ _ ?_; clear u9
    exact ⟨oS', [], rfl, h1, trivial, (fun c hc => nomatch hc), h2, h3⟩
  case turn =>
    rintro N i v ys n fz C hi - ⟨oS', ws, rfl, h1, h2, h3, h4, h5⟩ hx
    refine EvX.mono (evx_sub (P := IsS "AB") (S := fun v => ∃ c, Letter c ∧ IsS c v) (R := fun u n => ∃ j : Nat, IsI (j : Int) u ∧ j < 2 ∧ ∃ o', n = [(so, o')] ++ ([(L + 1, oc)] ++ fz) ∧ SrcO ca (place + 1 + i + 1) o') ev_str (EvX.mono (evx_call (f := 0) G_law_take (ev_glob (g_law_take _)) (evs_cons (ev_cell (v := .ref so) (List.mem_append_left _ (.tail _ (.head _))) ho) (evs_cons (ev_int (x := 2)) evs_nil))
        (P := fun v n => ∃ n₁, n = n₁ ++ ([(L + 1, oc)] ++ fz) ∧ ∃ j : Nat, IsI (j : Int) v ∧ j < 2 ∧ ∃ o', n₁ = [(so, o')] ∧ SrcO ca (place + 1 + i + 1) o') fun vs hv => ?_) ?_) ?_) ?_
    · walk_at "h"
      obtain ⟨_, rfl, _, ⟨_, ⟨tt, rfl⟩, _, rfl, rfl⟩, rfl⟩ := hv
      walk_at "u"
      exact Ct.use1 (news := [(so, oS')]) (fz := [(L + 1, oc)] ++ fz) (take_law (lim := 2) (by omega) ⟨by decide, by decide⟩ h1) (rm.le (by decide)) hf fun h h' u k => u.keeps k
    · refine hide2 fun _ u9 => ?_
      rintro v n ⟨n₁, rfl, j, e1, e2, o', rfl, e3⟩
      refine u9 _ _ ?_; clear u9
      exact ⟨j, e1, e2, o', rfl, e3⟩
    · intro o k n h1 h94
      walk_at "h"
      obtain ⟨j, h2, h3, -⟩ := h94
      walk_at "u"
      match j, h3 with
      | 0, _ => exact Run.mono (sub_str (x := "AB") (k := 0) (c := 65) rfl (by decide) (by intro _ _; with_unfolding_all rfl) o k h1 h2) fun v hv => ⟨"A", .inl rfl, hv⟩
      | 1, _ => exact Run.mono (sub_str (x := "AB") (k := 1) (c := 66) rfl (by decide) (by intro _ _; with_unfolding_all rfl) o k h1 h2) fun v hv => ⟨"B", .inr rfl, hv⟩
    · refine hide2 fun _ u9 => ?_
      rintro v n ⟨⟨c, g1, g2⟩, k, j, g3, g4, o', rfl, g5⟩
      refine u9 _ _ ?_; clear u9
      exact ⟨[(so, o'), (L + 1, oc)], rfl, o', ws ++ [c], rfl, by rw [← Nat.add_assoc]; exact g5, h2.snoc g2, fun d hd => by
        rcases List.mem_append.mp hd with hd | hd
        · exact h3 d hd
        · rw [List.mem_singleton.mp hd]; exact g1, h4, h5⟩
  case fin =>
    walk_at "h"
    obtain ⟨N, D, ys, n₁, rfl, rfl, ⟨oS', ws, rfl, h1, h2, h3, h4, h5⟩, h6⟩ := hv
    walk_at "u"
    have hl' := h2.length
    refine ⟨_, [(so, oS'), (D, lstO ys)], C.drop (List.Sublist.cons₂ _ (List.sublist_cons_self _ _)), D, ys, ws, oS', rfl, rfl, h2, h3, by omega, by omega, ?_⟩
    rw [← hl', h6]; exact h1
def NmL (count : Nat) (nl : List (Str × Nat)) : Prop := (nl.map (·.1)).Nodup ∧ (∀ x ∈ nl, Letter x.1 ∧ x.2 ≤ count) ∧ nl.length ≤ 2
def NmO (w : World) (o : Obj) (nl : List (Str × Nat)) : Prop := ∃ kvs, o.IsDictOf (PySem.strKind prg w) kvs ∧ AllR (fun kv x => kv.1 = x.1 ∧ IsI ((x.2 : Nat) : Int) kv.2) kvs nl
noncomputable def nmF (nl : List (Str × Nat)) (c : Str) : Option Nat := (nl.find? fun x => x.1 = c).map (·.2)
theorem AllR.keys {kvs : List (Str × Value)} {nl : List (Str × Nat)} (h : AllR (fun kv x => kv.1 = x.1 ∧ IsI ((x.2 : Nat) : Int) kv.2) kvs nl) : kvs.map (·.1) = nl.map (·.1) := by
  induction kvs generalizing nl with
  | nil => cases nl with
    | nil => rfl
    | cons _ _ => exact h.elim
  | cons a as ih => cases nl with
    | nil => exact h.elim
    | cons b bs => simp [h.1.1, ih h.2]
theorem nm_value {kvs : List (Str × Value)} {nl : List (Str × Nat)} (h : AllR (fun kv x => kv.1 = x.1 ∧ IsI ((x.2 : Nat) : Int) kv.2) kvs nl) (c : Str) : match nmF nl c with
    | none => valueAt kvs c = none
    | some k => ∃ v, valueAt kvs c = some v ∧ IsI (k : Int) v := by
  induction kvs generalizing nl with
  | nil => cases nl with
    | nil => rfl
    | cons _ _ => exact h.elim
  | cons a as ih => cases nl with
    | nil => exact h.elim
    | cons b bs =>
      obtain ⟨⟨h1, h2⟩, h3⟩ := h
      by_cases hc : b.1 = c
      · have e1 : nmF (b :: bs) c = some b.2 := by simp [nmF, hc]
        rw [e1]
        exact ⟨a.2, by simp [valueAt, h1, hc], h2⟩
      · have e1 : nmF (b :: bs) c = nmF bs c := by simp [nmF, hc]
        have e2 : valueAt (a :: as) c = valueAt as c := by simp [valueAt, h1, hc]
        rw [e1, e2]
        exact ih h3
theorem stored_new {K : Type} [DecidableEq K] {kvs : List (K × Value)} {k : K} {v : Value} (h : k ∉ kvs.map (·.1)) : stored kvs k v = kvs ++ [(k, v)] := by
  unfold stored
  rw [if_neg]
  intro q
  obtain ⟨p, hp, e⟩ := List.any_eq_true.mp q
  exact h (by rw [← of_decide_eq_true e]; exact List.mem_map_of_mem (f := (·.1)) hp)
noncomputable def ltr : Nat → Str
  | 0 => "A"
  | _ => "B"
theorem sign_AB {i : Nat} {v : Value} (hi : i < 2) (h : SignAt "AB" i v) : IsS (ltr i) v := by
  walk_at "h"
  obtain ⟨c, u, h1, rfl⟩ := h
  walk_at "u"
  match i, hi with
  | 0, _ =>
    have : c = 65 := by have e : (Str.ofString "AB").cps[0]? = some 65 := rfl; rw [e] at h1; cases h1; rfl
    subst this; exact ⟨u, rfl⟩
  | 1, _ =>
    have : c = 66 := by have e : (Str.ofString "AB").cps[1]? = some 66 := rfl; rw [e] at h1; cases h1; rfl
    subst this; exact ⟨u, rfl⟩
theorem letter_ltr (i : Nat) : Letter (ltr i) := by cases i with | zero => exact .inl rfl | succ _ => exact .inr rfl
theorem law_names {w : World} {so ca : Addr} {oS : Obj} {place count : Nat} {t : Tok} (hp : place ≤ 90000) (hl : count ≤ 100) (hS : SrcO ca place oS) :
    Ct w F_law_names.f [.ref so, .int (count : Int) t] (fun g => SrcF g ca) [(so, oS)] (fun v n => ∃ d o nl oS', v = .ref d ∧ n = [(so, oS'), (d, o)] ∧ (d == sysModules) = false ∧ NmO w o nl ∧ NmL count nl ∧ SrcO ca (place + 2) oS') False 2 := by
  refine ct_def (F := F_law_names) (binds := [(Str.ofString "source", .ref so), (Str.ofString "count", .int (count : Int) t)]) (k := 1) G_law_names (by kernel_rfl) (by kernel_rfl) (by kernel_rfl) fun A s₀ g L outer base hf rm => ?_
  conv => { arg 4; whnf }
  refine exx_assign (P := fun v n => ∃ d o, v = .ref d ∧ n = [(so, oS), (d, o)] ∧ (d == sysModules) = false ∧ (o.IsDictOf (PySem.strKind prg w) ([] : List (Str × Value)) ∧ o.IsDictOf (PySem.intKind prg w) ([] : List (Int × Value)))) (may := False) evx_dict0 (fun h => h.elim) (by kernel_rfl) (by walk_at "sub") (by kernel_rfl) (hide2 fun _ u9 v n hv => ?_)
  obtain ⟨d, o, rfl, rfl, hdm, ho, -⟩ := hv
  refine u9 _ _ ?_; clear u9
  refine ex_forW (own := []) (N := 2) (P := SignAt "AB") (may := False) (fun i l n => l = [(Str.ofString "found", .ref d), (Str.ofString "source", .ref so), (Str.ofString "count", .int (count : Int) t)] ∧ ∃ oS' o' nl, n = [(so, oS'), (d, o')] ∧ SrcO ca (place + i) oS' ∧ NmO w o' nl ∧ NmL count nl ∧ nl.length ≤ i ∧ ∀ x ∈ nl, ∃ j, j < i ∧ x.1 = ltr j)
    (makesW_str (by kernel_rfl) ev_str) ⟨rfl, oS, o, [], rfl, hS, ⟨[], ho, trivial⟩, ⟨by simp, by simp, by simp⟩, by simp, by simp⟩ (by kernel_rfl) ?_ (fun _ _ _ _ p hp => nomatch hp) ?_ ?_
  · rintro i l n ⟨rfl, -⟩; kernel_rfl
  · refine hideT fun _ u9 => ?_
    rintro i v l n fz hi hv ⟨rfl, oS', o', nl, rfl, h1, ⟨kvs, h2, h3⟩, h4, h6, h5⟩
    refine u9 _ _ _ _ _ ?_; clear u9
    obtain ⟨tl, rfl⟩ := sign_AB hi hv
    refine exx_assign (P := fun v n => ∃ j : Nat, IsI (j : Int) v ∧ j < count + 2 ∧ ∃ o'', n = [(so, o'')] ++ ([(d, o')] ++ fz) ∧ SrcO ca (place + i + 1) o'') (may := False) (EvX.mono (evx_call (f := 0) G_law_take (ev_glob (g_law_take _)) (evs_cons (by walk_at "nm" : Ev _ _ _ _ (· = Value.ref so)) (evs_cons (ev_add (ev_nameP (P := IsI (count : Int)) (by walk_at "mem") ⟨_, rfl⟩) (ev_int (x := 2))) evs_nil))
        (P := fun v n => ∃ n₁, n = n₁ ++ ([(d, o')] ++ fz) ∧ ∃ j : Nat, IsI (j : Int) v ∧ j < count + 2 ∧ ∃ o'', n₁ = [(so, o'')] ∧ SrcO ca (place + i + 1) o'') fun vs hv => ?_) ?_) (fun h => h.elim) (by kernel_rfl) (by walk_at "sub") (by kernel_rfl) (hide2 fun _ u9 v n hv => ?_)
    · obtain ⟨_, rfl, _, ⟨_, ⟨tt, rfl⟩, _, rfl, rfl⟩, rfl⟩ := hv
      exact Ct.use1 (news := [(so, oS')]) (fz := [(d, o')] ++ fz) (take_law (lim := count + 2) (by omega) ⟨by omega, by omega⟩ h1) (rm.le (by decide)) hf fun h h' u k => u.keeps k
    · refine hide2 fun _ u9 => ?_
      rintro v n ⟨n₁, rfl, j, e1, e2, o'', rfl, e3⟩
      refine u9 _ _ ?_; clear u9
      exact ⟨j, e1, e2, o'', rfl, e3⟩
    obtain ⟨j, ⟨tj, rfl⟩, hj, o'', rfl, h1'⟩ := hv
    refine u9 _ _ ?_; clear u9
    by_cases hjc : j ≤ count
    · refine ex_if_t (ist_cmp (ev_nameP (P := IsI (j : Int)) (by walk_at "mem") ⟨_, rfl⟩) (ev_nameP (P := IsI (count : Int)) (by walk_at "mem") ⟨_, rfl⟩) (cmp_int (by simp [icmp]; omega))) ?_
      have hfm : (((j : Int) + 1).fmod ((count : Int) + 1)) = (((j + 1) % (count + 1) : Nat) : Int) := by rw [Int.fmod_eq_emod_of_nonneg _ (by omega)]; simp
      have hnew : ltr i ∉ kvs.map (·.1) := by
        rw [AllR.keys h3]
        intro q
        obtain ⟨x, hx, e⟩ := List.mem_map.mp q
        obtain ⟨j', hj', e'⟩ := h5 x hx
        have : ltr i = ltr j' := by rw [← e, e']
        match i, j', hi, hj' with
        | 1, 0, _, _ => exact absurd this (by decide)
      refine exx_setdict (knd := PySem.strKind prg w) (kvs := kvs) (R := fun _ _ _ _ _ _ => True) (P := fun v n => IsI (((j + 1) % (count + 1) : Nat) : Int) v ∧ n = [(so, o'')] ++ ([(d, o')] ++ fz)) (may := False) (evx_of (Run.mono (ev_mod (ev_add (ev_nameP (P := IsI (j : Int)) (by walk_at "mem") ⟨_, rfl⟩) (ev_int (x := 1))) (ev_add (ev_nameP (P := IsI (count : Int)) (by walk_at "mem") ⟨_, rfl⟩) (ev_int (x := 1))) (by omega)) fun v hv => hfm ▸ hv)) (fun h => h.elim) fun v n hv => ?_
      obtain ⟨hv, rfl⟩ := hv
      refine ⟨[(so, o'')], d, o', fz, ltr i, rfl, h2, by rw [h3.length]; omega, by walk_at "nm", ev_nameP (by walk_at "mem") (strIs ⟨tl, rfl⟩), fun od' hod => ?_⟩
      rw [stored_new hnew] at hod
      refine ex_nil fun s C => ⟨_, [(so, o''), (d, od')], ⟨rfl, o'', od', nl ++ [(ltr i, (j + 1) % (count + 1))], rfl, h1', ⟨_, hod, h3.snoc ⟨rfl, hv⟩⟩, ⟨?_, ?_, ?_⟩, by simp; omega, ?_⟩, C.weak (by walk_at "sub")⟩
      · rw [List.map_append, List.nodup_append]
        refine ⟨h4.1, by simp, fun a ha b hb e => ?_⟩
        simp only [List.map_cons, List.map_nil, List.mem_singleton] at hb
        subst hb e
        exact hnew (by rw [AllR.keys h3]; exact ha)
      · intro x hx
        rcases List.mem_append.mp hx with hx | hx
        · exact h4.2.1 x hx
        · rw [List.mem_singleton.mp hx]
          exact ⟨letter_ltr i, Nat.le_of_lt_succ (Nat.mod_lt _ (by omega))⟩
      · simp; omega
      · intro x hx
        rcases List.mem_append.mp hx with hx | hx
        · obtain ⟨j', a, b⟩ := h5 x hx; exact ⟨j', by omega, b⟩
        · rw [List.mem_singleton.mp hx]; exact ⟨i, by omega, rfl⟩
    · refine ex_if_f (ist_cmp (ev_nameP (P := IsI (j : Int)) (by walk_at "mem") ⟨_, rfl⟩) (ev_nameP (P := IsI (count : Int)) (by walk_at "mem") ⟨_, rfl⟩) (cmp_int (by simp [icmp]; omega))) ?_
      exact ex_nil fun s C => ⟨_, [(so, o''), (d, o')], ⟨rfl, o'', o', nl, rfl, h1', ⟨kvs, h2, h3⟩, h4, by omega, fun x hx => by obtain ⟨j', a, b⟩ := h5 x hx; exact ⟨j', by omega, b⟩⟩, C.weak (by walk_at "sub")⟩
  · refine hide2 fun _ u9 => ?_
    rintro l n ⟨rfl, oS', o', nl, rfl, h1, h2, h3, -⟩
    refine u9 _ _ ?_; clear u9
    exact ex_ret (by walk_at "nm" : Ev _ _ _ _ (· = Value.ref d)) fun v s hv C => ⟨_, _, C, d, o', nl, oS', hv, rfl, hdm, h2, h3, h1⟩
section
variable {Γ : G} {l l' : List (Str × Value)} {news news' fz own : List (Addr × Obj)} {s : Shared} {rest : List Stmt} {Q : Flow → Shared → Prop} {E : Value → Shared → Prop}
def Std (n : List (Addr × Obj)) (g : Heap) : Prop := ∀ p ∈ n, g.get? p.1 = some p.2
theorem Std.left {a b : List (Addr × Obj)} {g : Heap} (h : Std (a ++ b) g) : Std a g := fun p hp => h p (List.mem_append_left _ hp)
theorem Std.right {a b : List (Addr × Obj)} {g : Heap} (h : Std (a ++ b) g) : Std b g := fun p hp => h p (List.mem_append_right _ hp)
theorem Cx.std (C : Cx Γ l news s) (h : ∀ p ∈ news', p ∈ news) : Std news' s.heap := fun p hp => C.obj (h p hp)
def EvN (Γ : G) (l : List (Str × Value)) (news : List (Addr × Obj)) (e : Expr) (P : Value → List (Addr × Obj) → Prop) : Prop := EvX Γ l news e (fun v n => ∃ n₁, n = n₁ ++ news ∧ P v n₁) False
def EvsN (Γ : G) (l : List (Str × Value)) (news : List (Addr × Obj)) (pos : Pos) (es : List Expr) (P : List Value → List (Addr × Obj) → Prop) : Prop := EvsX Γ l news pos es (fun vs n => ∃ n₁, n = n₁ ++ news ∧ P vs n₁) False
theorem EvN.mono {e : Expr} {P P' : Value → List (Addr × Obj) → Prop} (h : EvN Γ l news e P) (k : ∀ v n, P v n → P' v n) : EvN Γ l news e P' := EvX.mono h fun v n ⟨n₁, e, hp⟩ => ⟨n₁, e, k v n₁ hp⟩
theorem evn_of {e : Expr} {P : Value → Prop} (h : Ev Γ l news e P) : EvN Γ l news e (fun v n => P v ∧ n = []) := EvX.mono (evx_of h) fun v n ⟨a, b⟩ => ⟨[], b, a, rfl⟩
theorem evsn_nil {pos : Pos} : EvsN Γ l news pos [] (fun vs n => vs = [] ∧ n = []) := fun s Q E C k _ => spliced_none (k _ _ _ ⟨[], rfl, rfl, rfl⟩ C)
theorem evsn_cons {e : Expr} {r : List Expr} {pos : Pos} {P : Value → List (Addr × Obj) → Prop} {R : Value → List Value → List (Addr × Obj) → Prop} (h : EvN Γ l news e P) (hr : ∀ v n₁, P v n₁ → EvsN Γ l (n₁ ++ news) pos r (R v))
    (he : starEach (e :: r) Γ.env = (false, eval e Γ.env) :: starEach r Γ.env := by rfl) : EvsN Γ l news pos (e :: r) (fun vs n => ∃ v n₁ u n₂, P v n₁ ∧ R v u n₂ ∧ vs = v :: u ∧ n = n₂ ++ n₁) := fun s Q E C k _ =>
  spliced_more (h s _ E C (fun v n s' hv C' => by
    obtain ⟨n₁, rfl, hP⟩ := hv
    exact hr v n₁ hP s' _ E C' (fun u n s'' hu C'' => by
      obtain ⟨n₂, rfl, hR⟩ := hu
      exact k _ _ _ ⟨n₂ ++ n₁, by rw [List.append_assoc], v, n₁, u, n₂, hP, hR, rfl, rfl⟩ C'') (fun h => h.elim)) (fun h => h.elim)) he
theorem evn_list {es : List Expr} {pos : Pos} {R : List Value → List (Addr × Obj) → Prop} (h : EvsN Γ l news pos es R) (hn : ∀ vs n, R vs n → vs.length ≤ 1000) : EvN Γ l news (.List es pos) (fun v n => ∃ a vs n₁, v = .ref a ∧ R vs n₁ ∧ n = (a, listOf vs.toArray 0) :: n₁) := fun s Q E C k _ =>
  List_ (h s _ E C (fun vs n s₁ hv C₁ => by
    obtain ⟨n₁, rfl, hR⟩ := hv
    exact new_list C₁ (fun a s₂ C₂ => k _ _ _ ⟨(a, listOf vs.toArray 0) :: n₁, rfl, a, vs, n₁, rfl, hR, rfl⟩ C₂) (Nat.le_trans (hn vs n₁ hR) (by decide))) (fun h => h.elim))
theorem evn_tup {es : List Expr} {kk : Nat} {pos : Pos} {R : List Value → List (Addr × Obj) → Prop} (h : EvsN Γ l news pos es R) (hn : ∀ vs n, R vs n → vs.length ≤ 1000) : EvN Γ l news (.Tuple es kk pos) (fun v n => ∃ a vs n₁, v = .ref a ∧ R vs n₁ ∧ n = (a, { cls := .type "tuple", data := .seq vs.toArray }) :: n₁) := fun s Q E C k _ =>
  Tuple_ (h s _ E C (fun vs n s₁ hv C₁ => by
    obtain ⟨n₁, rfl, hR⟩ := hv
    exact new_tuple C₁ (fun a s₂ C₂ => k _ _ _ ⟨_ :: n₁, rfl, a, vs, n₁, rfl, hR, rfl⟩ C₂) (hn vs n₁ hR)) (fun h => h.elim))
theorem evn_dict0 {pos : Pos} : EvN Γ l news (.Dict [] [] pos) (fun v n => ∃ d o, v = .ref d ∧ n = [(d, o)] ∧ (d == sysModules) = false ∧ (o.IsDictOf (PySem.strKind prg Γ.w) ([] : List (Str × Value)) ∧ o.IsDictOf (PySem.intKind prg Γ.w) ([] : List (Int × Value)))) :=
  EvX.perm evx_dict0 fun v n ⟨d, o, a, b, c⟩ => by subst b; exact ⟨(d, o) :: news, List.perm_append_comm, [(d, o)], rfl, d, o, a, rfl, c⟩
theorem evn_dict1 {kx vx : Expr} {pos : Pos} {key : Str} {P : Value → List (Addr × Obj) → Prop} (hk : ∀ n, Ev Γ l n kx (IsS key)) (hv : ∀ n, EvN Γ l n vx P) :
    EvN Γ l news (.Dict [some kx] [vx] pos) (fun u n => ∃ d o v n₁, u = .ref d ∧ n = (d, o) :: n₁ ∧ o.IsDictOf (PySem.strKind prg Γ.w) [(key, v)] ∧ (d == sysModules) = false ∧ P v n₁) :=
  EvX.perm (evx_dict1 (P := fun v n => ∃ n₁, n = n₁ ++ news ∧ P v n₁) hk fun d eo => EvX.perm (hv (news ++ [(d, eo)])) fun v n ⟨n₁, e, hp⟩ => ⟨n, List.Perm.refl _, n₁ ++ news, by rw [e, List.append_assoc], n₁, rfl, hp⟩)
    fun u n ⟨d, o, v, n₁, e1, e2, e3, e4, n₂, e5, hp⟩ => by
      subst e2 e5
      exact ⟨(d, o) :: (n₂ ++ news), List.perm_append_comm, (d, o) :: n₂, rfl, d, o, v, n₂, e1, rfl, e3, e4, hp⟩
theorem evn_inst {fe : Expr} {C : Addr} {F : FI} {e : Expr} {r : List Expr} {pos : Pos} {R : List Value → List (Addr × Obj) → Prop} {Pi : List Value → Addr → Addr → List (Addr × Obj) → Prop} {k : Nat} (ok : makeOk (KL Γ.w.params) C F.f = true) (kp : keepIn (KL Γ.w.params) (.ref C) = true) (hf : Ev Γ l news fe (· = .ref C))
    (ha : EvsN Γ l news pos (e :: r) R) (c : ∀ vs n, R vs n → ∀ x dx, CtC Γ.w F.f (.ref x :: vs) (fun _ => True) [(x, instObj C dx), (dx, emptyDict)] (fun v n => v = .none ∧ Pi vs x dx n) False k) (rm : Room Γ.A (k + 1))
    (he : starEach (e :: r) Γ.env = (false, eval e Γ.env) :: starEach r Γ.env := by rfl) (hplain : (backTo pos (starEach r Γ.env)).any (·.1) = false := by rfl)
    (hc' : eval (.Call fe (e :: r) [] pos) Γ.env = (do callWith pos (← eval fe Γ.env) [] (backTo pos (starEach (e :: r) Γ.env)) (backToKw pos (keywordEach [] Γ.env))) := by rfl) :
    EvN Γ l news (.Call fe (e :: r) [] pos) (fun v n => ∃ vs n₀ x dx n₁, R vs n₀ ∧ v = .ref x ∧ Pi vs x dx n₁ ∧ n = n₁ ++ n₀) := fun s Q E C₀ q _ =>
  Call_ (hf s _ E C₀ fun v s₁ hv C₁ => by
    subst hv
    refine callWith_K C₁.k0 kp (ha s₁ _ E C₁ (fun vs n s₂ hv C₂ => ⟨C₂.k, ?_⟩) (fun h => h.elim)) he hplain
    obtain ⟨n₀, rfl, hR⟩ := hv
    refine mk_inst (news := []) (fz := n₀ ++ news) ok (c vs n₀ hR) rm C₂ (fun x dx s' C' => trivial) fun x dx n s' hP C' => ?_
    exact q _ _ s' ⟨n ++ n₀, by rw [List.append_assoc]; rfl, vs, n₀, x, dx, n, hR, rfl, hP, rfl⟩ C') hc'
end
theorem mk_Name (P : Params) : makeOk (KL P) 204 F_Name_init.f = true := by kernel_rfl
theorem kp_Name (P : Params) : keepIn (KL P) (.ref 204) = true := by kernel_rfl
theorem so_Name_text (P : Params) : setOk (KL P) 204 "text" = true := by kernel_rfl
def NameO (w : World) (v0 : Value) (x dx : Addr) (n : List (Addr × Obj)) : Prop := ∃ t0 k, n = [(x, instObj 204 dx), (dx, dictOf [E w.params "text" t0 v0] k)]
theorem Name_init {w : World} {x dx : Addr} {v0 : Value} : CtC w F_Name_init.f [.ref x, v0] (fun _ => True) [(x, instObj 204 dx), (dx, emptyDict)] (fun v n => v = .none ∧ NameO w v0 x dx n) False 1 := by
  refine ctc_def (F := F_Name_init) (binds := [(Str.ofString "self", .ref x), (Str.ofString "text", v0)]) (k := 0) G_Name_init (by kernel_rfl) (by kernel_rfl) (by kernel_rfl) fun A s₀ g L outer base hf rm => ?_
  conv => { arg 4; whnf }
  show Ex _ _ [(x, instObj 204 dx), (dx, dictOf [] 0)] _ _ _
  refine ex_init1 (v := v0) (by walk_at "nm") (by walk_at "nm") (so_Name_text _) (by kernel_rfl) (fun t => by kernel_rfl) (by simp) fun t0 => ?_
  exact ex_nil fun s C => ⟨_, _, C, rfl, t0, _, rfl⟩
theorem NameO.text {w : World} {v0 : Value} {x dx : Addr} {n : List (Addr × Obj)} {g : Heap} (h : NameO w v0 x dx n) (st : Std n g) (hI : handedIn v0 = true) : At g x 204 "text" v0 := by
  obtain ⟨t0, k, rfl⟩ := h
  exact ⟨dx, _, k, st _ (.head _), st _ (.tail _ (.head _)), by kernel_rfl, hI⟩
theorem mk_Stream (P : Params) : makeOk (KL P) 247 F_Stream_init.f = true := by kernel_rfl
theorem kp_Stream (P : Params) : keepIn (KL P) (.ref 247) = true := by kernel_rfl
theorem so_Stream_head (P : Params) : setOk (KL P) 247 "head" = true := by kernel_rfl
theorem so_Stream_octets (P : Params) : setOk (KL P) 247 "octets" = true := by kernel_rfl
def StreamO (w : World) (v0 v1 : Value) (x dx : Addr) (n : List (Addr × Obj)) : Prop := ∃ t0 t1 k, n = [(x, instObj 247 dx), (dx, dictOf [E w.params "head" t0 v0, E w.params "octets" t1 v1] k)]
theorem Stream_init {w : World} {x dx : Addr} {v0 v1 : Value} : CtC w F_Stream_init.f [.ref x, v0, v1] (fun _ => True) [(x, instObj 247 dx), (dx, emptyDict)] (fun v n => v = .none ∧ StreamO w v0 v1 x dx n) False 1 := by
  refine ctc_def (F := F_Stream_init) (binds := [(Str.ofString "self", .ref x), (Str.ofString "head", v0), (Str.ofString "octets", v1)]) (k := 0) G_Stream_init (by kernel_rfl) (by kernel_rfl) (by kernel_rfl) fun A s₀ g L outer base hf rm => ?_
  conv => { arg 4; whnf }
  show Ex _ _ [(x, instObj 247 dx), (dx, dictOf [] 0)] _ _ _
  refine ex_init1 (v := v0) (by walk_at "nm") (by walk_at "nm") (so_Stream_head _) (by kernel_rfl) (fun t => by kernel_rfl) (by simp) fun t0 => ?_
  refine ex_init1 (v := v1) (by walk_at "nm") (by walk_at "nm") (so_Stream_octets _) (by kernel_rfl) (fun t => by kernel_rfl) (by simp) fun t1 => ?_
  exact ex_nil fun s C => ⟨_, _, C, rfl, t0, t1, _, rfl⟩
theorem StreamO.head {w : World} {v0 v1 : Value} {x dx : Addr} {n : List (Addr × Obj)} {g : Heap} (h : StreamO w v0 v1 x dx n) (st : Std n g) (hI : handedIn v0 = true) : At g x 247 "head" v0 := by
  walk_at "h"
  obtain ⟨t0, t1, k, rfl⟩ := h
  walk_at "u"
  exact ⟨dx, _, k, st _ (.head _), st _ (.tail _ (.head _)), by kernel_rfl, hI⟩
theorem StreamO.octets {w : World} {v0 v1 : Value} {x dx : Addr} {n : List (Addr × Obj)} {g : Heap} (h : StreamO w v0 v1 x dx n) (st : Std n g) (hI : handedIn v1 = true) : At g x 247 "octets" v1 := by
  walk_at "h"
  obtain ⟨t0, t1, k, rfl⟩ := h
  walk_at "u"
  exact ⟨dx, _, k, st _ (.head _), st _ (.tail _ (.head _)), by kernel_rfl, hI⟩
theorem mk_Reference (P : Params) : makeOk (KL P) 275 F_Reference_init.f = true := by kernel_rfl
theorem kp_Reference (P : Params) : keepIn (KL P) (.ref 275) = true := by kernel_rfl
theorem so_Reference_number (P : Params) : setOk (KL P) 275 "number" = true := by kernel_rfl
theorem so_Reference_generation (P : Params) : setOk (KL P) 275 "generation" = true := by kernel_rfl
def ReferenceO (w : World) (v0 v1 : Value) (x dx : Addr) (n : List (Addr × Obj)) : Prop := ∃ t0 t1 k, n = [(x, instObj 275 dx), (dx, dictOf [E w.params "number" t0 v0, E w.params "generation" t1 v1] k)]
theorem Reference_init {w : World} {x dx : Addr} {v0 v1 : Value} : CtC w F_Reference_init.f [.ref x, v0, v1] (fun _ => True) [(x, instObj 275 dx), (dx, emptyDict)] (fun v n => v = .none ∧ ReferenceO w v0 v1 x dx n) False 1 := by
  refine ctc_def (F := F_Reference_init) (binds := [(Str.ofString "self", .ref x), (Str.ofString "number", v0), (Str.ofString "generation", v1)]) (k := 0) G_Reference_init (by kernel_rfl) (by kernel_rfl) (by kernel_rfl) fun A s₀ g L outer base hf rm => ?_
  conv => { arg 4; whnf }
  show Ex _ _ [(x, instObj 275 dx), (dx, dictOf [] 0)] _ _ _
  refine ex_init1 (v := v0) (by walk_at "nm") (by walk_at "nm") (so_Reference_number _) (by kernel_rfl) (fun t => by kernel_rfl) (by simp) fun t0 => ?_
  refine ex_init1 (v := v1) (by walk_at "nm") (by walk_at "nm") (so_Reference_generation _) (by kernel_rfl) (fun t => by kernel_rfl) (by simp) fun t1 => ?_
  exact ex_nil fun s C => ⟨_, _, C, rfl, t0, t1, _, rfl⟩
theorem ReferenceO.number {w : World} {v0 v1 : Value} {x dx : Addr} {n : List (Addr × Obj)} {g : Heap} (h : ReferenceO w v0 v1 x dx n) (st : Std n g) (hI : handedIn v0 = true) : At g x 275 "number" v0 := by
  walk_at "h"
  obtain ⟨t0, t1, k, rfl⟩ := h
  walk_at "u"
  exact ⟨dx, _, k, st _ (.head _), st _ (.tail _ (.head _)), by kernel_rfl, hI⟩
theorem ReferenceO.generation {w : World} {v0 v1 : Value} {x dx : Addr} {n : List (Addr × Obj)} {g : Heap} (h : ReferenceO w v0 v1 x dx n) (st : Std n g) (hI : handedIn v1 = true) : At g x 275 "generation" v1 := by
  walk_at "h"
  obtain ⟨t0, t1, k, rfl⟩ := h
  walk_at "u"
  exact ⟨dx, _, k, st _ (.head _), st _ (.tail _ (.head _)), by kernel_rfl, hI⟩
theorem mk_Operation (P : Params) : makeOk (KL P) 908 F_Operation_init.f = true := by kernel_rfl
theorem kp_Operation (P : Params) : keepIn (KL P) (.ref 908) = true := by kernel_rfl
theorem so_Operation_word (P : Params) : setOk (KL P) 908 "word" = true := by kernel_rfl
theorem so_Operation_operands (P : Params) : setOk (KL P) 908 "operands" = true := by kernel_rfl
def OperationO (w : World) (v0 v1 : Value) (x dx : Addr) (n : List (Addr × Obj)) : Prop := ∃ t0 t1 k, n = [(x, instObj 908 dx), (dx, dictOf [E w.params "word" t0 v0, E w.params "operands" t1 v1] k)]
theorem Operation_init {w : World} {x dx : Addr} {v0 v1 : Value} : CtC w F_Operation_init.f [.ref x, v0, v1] (fun _ => True) [(x, instObj 908 dx), (dx, emptyDict)] (fun v n => v = .none ∧ OperationO w v0 v1 x dx n) False 1 := by
  refine ctc_def (F := F_Operation_init) (binds := [(Str.ofString "self", .ref x), (Str.ofString "word", v0), (Str.ofString "operands", v1)]) (k := 0) G_Operation_init (by kernel_rfl) (by kernel_rfl) (by kernel_rfl) fun A s₀ g L outer base hf rm => ?_
  conv => { arg 4; whnf }
  show Ex _ _ [(x, instObj 908 dx), (dx, dictOf [] 0)] _ _ _
  refine ex_init1 (v := v0) (by walk_at "nm") (by walk_at "nm") (so_Operation_word _) (by kernel_rfl) (fun t => by kernel_rfl) (by simp) fun t0 => ?_
  refine ex_init1 (v := v1) (by walk_at "nm") (by walk_at "nm") (so_Operation_operands _) (by kernel_rfl) (fun t => by kernel_rfl) (by simp) fun t1 => ?_
  exact ex_nil fun s C => ⟨_, _, C, rfl, t0, t1, _, rfl⟩
theorem OperationO.word {w : World} {v0 v1 : Value} {x dx : Addr} {n : List (Addr × Obj)} {g : Heap} (h : OperationO w v0 v1 x dx n) (st : Std n g) (hI : handedIn v0 = true) : At g x 908 "word" v0 := by
  walk_at "h"
  obtain ⟨t0, t1, k, rfl⟩ := h
  walk_at "u"
  exact ⟨dx, _, k, st _ (.head _), st _ (.tail _ (.head _)), by kernel_rfl, hI⟩
theorem OperationO.operands {w : World} {v0 v1 : Value} {x dx : Addr} {n : List (Addr × Obj)} {g : Heap} (h : OperationO w v0 v1 x dx n) (st : Std n g) (hI : handedIn v1 = true) : At g x 908 "operands" v1 := by
  walk_at "h"
  obtain ⟨t0, t1, k, rfl⟩ := h
  walk_at "u"
  exact ⟨dx, _, k, st _ (.head _), st _ (.tail _ (.head _)), by kernel_rfl, hI⟩
theorem ReferenceO.pair {w : World} {v0 v1 : Value} {x dx : Addr} {n : List (Addr × Obj)} {g : Heap} (h : ReferenceO w v0 v1 x dx n) (st : Std n g) : NoAt g x 275 "pair" := by
  walk_at "h"
  obtain ⟨t0, t1, k, rfl⟩ := h
  walk_at "u"
  exact ⟨dx, _, k, st _ (.head _), st _ (.tail _ (.head _)), by kernel_rfl⟩
theorem d216 (P : Params) : (KL P).lookup 216 = some J3g := by kernel_rfl
theorem mk_String (P : Params) : makeOk (KL P) 226 F_String_init.f = true := by kernel_rfl
theorem kp_String (P : Params) : keepIn (KL P) (.ref 226) = true := by kernel_rfl
theorem so_String (P : Params) : setOk (KL P) 226 "octets" = true ∧ setOk (KL P) 226 "is_hex" = true := ⟨by kernel_rfl, by kernel_rfl⟩
theorem String_init {w : World} {x dx : Addr} {v0 : Value} : CtC w F_String_init.f [.ref x, v0] (fun _ => True) [(x, instObj 226 dx), (dx, emptyDict)] (fun v n => v = .none ∧ True) False 1 := by
  refine ctc_defD (F := F_String_init) (binds := [(Str.ofString "self", .ref x), (Str.ofString "octets", v0), (Str.ofString "is_hex", .bool false)]) (k := 0) (T := 216) G_String_init rfl (d216 _) rfl rfl (by rfl) (by kernel_rfl) (by kernel_rfl) fun A s₀ g L outer base hf rm => ?_
  conv => { arg 4; whnf }
  obtain ⟨o1, o2⟩ := so_String w.params
  show Ex _ _ [(x, instObj 226 dx), (dx, dictOf [] 0)] _ _ _
  refine ex_init1 (v := v0) (by walk_at "nm") (by walk_at "nm") o1 (by kernel_rfl) (fun t => by kernel_rfl) (by simp) fun t1 => ?_
  refine ex_init1 (v := .bool false) (by walk_at "nm") (by walk_at "nm") o2 (by kernel_rfl) (fun t => by kernel_rfl) (by simp) fun t2 => ?_
  exact ex_nil fun s C => ⟨_, _, C, rfl, trivial⟩
theorem ev_bytes {Γ : G} {l : List (Str × Value)} {news : List (Addr × Obj)} {x : List UInt8} {i : Nat} {pos : Pos} : Ev Γ l news (.Constant (.bytes x) i pos) (fun v => ∃ t, v = .bytes x.toArray t) := Run.of fun s Q E C k => Constant_bytes (k _ _ ⟨_, rfl⟩)
theorem isS_of {w : World} {x : Str} {v : Value} (h : (PySem.strKind prg w).is x v = true) : IsS x v := Value.isStrOf_shape h
theorem isI_of {w : World} {x : Int} {v : Value} (h : (PySem.intKind prg w).is x v = true) : IsI x v := Value.isInt_shape h
abbrev KvR : Str × Value → Str × Nat → Prop := fun kv x => kv.1 = x.1 ∧ IsI ((x.2 : Nat) : Int) kv.2
def WdE (w : World) (g : Heap) (tp : Addr) (F : FormD) (count : Nat) : Prop := ∃ t ov wl ys, IsTup g tp #[.int F.gen t, ov, .ref wl] ∧ g.IsList wl ys.toArray ∧ AllR (fun y c => IsS c y) ys F.wishes ∧
  match F.own with
  | none => ov = .none
  | some nm => ∃ na kvs nl, ov = .ref na ∧ SD w (PySem.strKind prg w) g na kvs ∧ AllR KvR kvs nl ∧ nm = nmF nl ∧ ∀ x ∈ nl, x.2 ≤ count
theorem WdE.keeps {w : World} {h h' : Heap} {tp : Addr} {F : FormD} {count : Nat} (u : WdE w h tp F count) (k : ∀ b o, h.get? b = some o → h'.get? b = some o) : WdE w h' tp F count := by
  walk_at "h"
  obtain ⟨t, ov, wl, ys, a1, a2, a3, a4⟩ := u
  walk_at "u"
  refine ⟨t, ov, wl, ys, a1.keeps k, isList_keeps a2 k, a3, ?_⟩
  split
  · rename_i e; simp only [e] at a4; exact a4
  · rename_i nm e; simp only [e] at a4
    walk_at "h"
    obtain ⟨na, kvs, nl, b1, b2, b3, b4⟩ := a4
    walk_at "u"
    exact ⟨na, kvs, nl, b1, b2.keeps k, b3, b4⟩
def WdF (w : World) (g : Heap) (wa : Addr) (count : Nat) (W : WorldD) : Prop := ∃ wkvs, SD w (PySem.intKind prg w) g wa wkvs ∧ ∀ k, 1 ≤ k → k ≤ count → ∃ F tp, W k = some F ∧ valueAt wkvs (k : Int) = some (.ref tp) ∧ WdE w g tp F count
def EntF (w : World) (W : WorldD) (g : Heap) (v : Value) : Nat → Prop
  | 0 => ∃ x hd hk nf t, v = .ref x ∧ At g x 247 "head" (.ref hd) ∧ SD w (PySem.strKind prg w) g hd hk ∧ valueAt hk "Subtype" = some (.ref nf) ∧ At g nf 204 "text" (.str "Image" t)
  | k + 1 => ∃ r t t' F, v = .ref r ∧ At g r 275 "number" (.int ((k + 1 : Nat) : Int) t) ∧ At g r 275 "generation" (.int F.gen t') ∧ NoAt g r 275 "pair" ∧ W (k + 1) = some F
theorem xd_of {w : World} {W : WorldD} {g : Heap} {x : Addr} {kvs : List (Str × Value)} {nl : List (Str × Nat)} (h : SD w (PySem.strKind prg w) g x kvs) (a : AllR (fun kv x => kv.1 = x.1 ∧ EntF w W g kv.2 x.2) kvs nl) : XD w g W x (nmF nl) := by
  refine ⟨kvs, h, fun c => ?_⟩
  clear h
  induction kvs generalizing nl with
  | nil => cases nl with
    | nil => rfl
    | cons _ _ => exact a.elim
  | cons b as ih => cases nl with
    | nil => exact a.elim
    | cons y bs =>
      obtain ⟨⟨h1, h2⟩, h3⟩ := a
      by_cases hc : y.1 = c
      · have e1 : nmF (y :: bs) c = some y.2 := by simp [nmF, hc]
        have e2 : valueAt (b :: as) c = some b.2 := by simp [valueAt, h1, hc]
        rw [e1, e2]
        obtain ⟨y1, y2⟩ := y
        cases y2 with
        | zero => obtain ⟨x, hd, hk, nf, t, e, r⟩ := h2; exact ⟨x, hd, hk, nf, t, by rw [e], r⟩
        | succ k => obtain ⟨r, t, t', F, e, z⟩ := h2; exact ⟨r, t, t', F, by rw [e], z⟩
      · have e1 : nmF (y :: bs) c = nmF bs c := by simp [nmF, hc]
        have e2 : valueAt (b :: as) c = valueAt as c := by simp [valueAt, h1, hc]
        rw [e1, e2]
        exact ih h3
theorem law_entries {w : World} {na wa : Addr} {nkvs : List (Str × Value)} {nl : List (Str × Nat)} {count : Nat} {W : WorldD} (hn : AllR KvR nkvs nl) (hnl : NmL count nl) :
    Ct w F_law_entries.f [.ref na, .ref wa] (fun g => SD w (PySem.strKind prg w) g na nkvs ∧ WdF w g wa count W) [] (fun v n => ∃ r, v = .ref r ∧ ∀ g, Std n g → Res w g W r (nmF nl)) False 3 := by
  refine ct_def (F := F_law_entries) (binds := [(Str.ofString "names", .ref na), (Str.ofString "world", .ref wa)]) (k := 2) G_law_entries (by kernel_rfl) (by kernel_rfl) (by kernel_rfl) fun A s₀ g L outer base hf rm => ?_
  walk_at "h"
  obtain ⟨hN, wkvs, hW1, hW2⟩ := hf
  walk_at "u"
  have hlen := hn.length
  have hl2 := hnl.2.2
  conv => { arg 4; whnf }
  refine exx_assign (P := fun v n => ∃ d o, v = .ref d ∧ n = [(d, o)] ∧ (d == sysModules) = false ∧ (o.IsDictOf (PySem.strKind prg w) ([] : List (Str × Value)) ∧ o.IsDictOf (PySem.intKind prg w) ([] : List (Int × Value)))) (may := False) (EvX.mono evn_dict0 fun v n ⟨n₁, e, d, o, h1, h2, h3⟩ => ⟨d, o, h1, by rw [e, h2]; rfl, h3⟩) (fun h => h.elim) (by kernel_rfl) (by walk_at "sub") (by kernel_rfl) (hide2 fun _ u9 v n hv => ?_)
  obtain ⟨d, o, rfl, rfl, hdm, ho, -⟩ := hv
  refine u9 _ _ ?_; clear u9
  refine ex_forW (own := []) (N := nkvs.length) (P := fun i v => ∃ k x, nkvs[i]? = some (k, x) ∧ (PySem.strKind prg w).is k v = true) (may := False) (fun i l n => l = [(Str.ofString "found", .ref d), (Str.ofString "names", .ref na), (Str.ofString "world", .ref wa)] ∧ ∃ od kvs objs, n = (d, od) :: objs ∧ od.IsDictOf (PySem.strKind prg w) kvs ∧ kvs.map (·.1) = (nl.take i).map (·.1) ∧ ∀ g, Std objs g → AllR (fun kv x => kv.1 = x.1 ∧ EntF w W g kv.2 x.2) kvs (nl.take i))
    (makesW_keys (by walk_at "nm") (.inl hN) (fun p hp => nomatch hp)) ⟨rfl, o, [], [], rfl, ho, rfl, fun g _ => trivial⟩ (by kernel_rfl) ?_ (fun _ _ _ _ p hp => nomatch hp) ?_ ?_
  · rintro i l n ⟨rfl, -⟩; kernel_rfl
  · refine hideT fun _ u9 => ?_
    rintro i v l n fz hi ⟨k, x, hkx, hkv⟩ ⟨rfl, od, kvs, objs, rfl, h1, hks, h2⟩
    refine u9 _ _ _ _ _ ?_; clear u9
    obtain ⟨tl, rfl⟩ := isS_of hkv
    have hin : i < nl.length := by omega
    obtain ⟨y, hy⟩ : ∃ y, nl[i]? = some y := ⟨nl[i], by simp [hin]⟩
    obtain ⟨e1, e2⟩ := hn.get i _ _ hkx hy
    dsimp only at e1 e2
    have hval : valueAt nkvs k = some x := by
      have nd : (nkvs.map (·.1)).Nodup := by rw [AllR.keys hn]; exact hnl.1
      have hm : (k, x) ∈ nkvs := List.mem_of_getElem? hkx
      clear hkx e1 hN hn hlen hi
      induction nkvs with
      | nil => cases hm
      | cons a as ih =>
        rw [List.map_cons, List.nodup_cons] at nd
        rcases List.mem_cons.mp hm with rfl | hm
        · simp [valueAt]
        · have : a.1 ≠ k := fun e => nd.1 (e ▸ List.mem_map_of_mem (f := (·.1)) hm)
          have e3 : valueAt (a :: as) k = valueAt as k := by simp [valueAt, this]
          rw [e3]; exact ih nd.2 hm
    obtain ⟨tx, rfl⟩ := e2
    obtain ⟨-, hyc⟩ := hnl.2.1 y (List.mem_of_getElem? hy)
    refine ex_assign (P := (· = .int ((y.2 : Nat) : Int) tx)) (ev_sub (by walk_at "nm" : Ev _ _ _ _ (· = Value.ref na)) (ev_nameP (P := IsS k) (by walk_at "mem") ⟨_, rfl⟩) (sub_dict (knd := PySem.strKind prg w) (k := k) (fun s C => hN.keeps fun b o => C.keep) (fun j hj => strIs hj) hval)) (by kernel_rfl) (by walk_at "sub") (by kernel_rfl) fun v hv => ?_
    subst hv
    have hnum : ∀ {l : List (Str × Value)} {news : List (Addr × Obj)} {p : Pos}, (Str.ofString "number", Value.int ((y.2 : Nat) : Int) tx) ∈ l → Ev ⟨w, A, s₀, g, L, outer, base, F_law_entries.env L⟩ l news (.Name "number" p) (· = .int ((y.2 : Nat) : Int) tx) := fun hm => ev_name hm
    refine exx_setdict (knd := PySem.strKind prg w) (kvs := kvs) (R := fun _ _ _ _ _ _ => True) (P := fun v n => ∃ n₁, n = n₁ ++ ((d, od) :: objs ++ fz) ∧ ∀ g, Std n₁ g → EntF w W g v y.2) (may := False) ?ent (fun h => h.elim) (hide2 fun _ u9 v n hv => ?_)
    case ent =>
      by_cases h0 : y.2 = 0
      · refine evx_if_f (ist_cmp ((hnum (by walk_at "mem")).mono fun v hv => ⟨tx, hv⟩ : Ev _ _ _ _ (IsI ((y.2 : Nat) : Int))) (ev_int (x := 0)) (cmp_int (by simp [icmp, h0]))) ?_
        refine EvN.mono (evn_inst (F := F_Stream_init) (k := 1) (mk_Stream _) (kp_Stream _) (ev_glob (g_Stream _)) (evsn_cons (evn_dict1 (key := "Subtype") (fun n => ev_str) fun n => evn_inst (F := F_Name_init) (k := 1) (mk_Name _) (kp_Name _) (ev_glob (g_Name _)) (evsn_cons (evn_of ev_str) fun v n₁ _ => evsn_nil)
            (Pi := fun vs x dx n => ∃ v0, vs = [v0] ∧ NameO w v0 x dx n) ?i1 (rm.le (by decide))) fun v n₁ _ => evsn_cons (evn_of ev_bytes) fun v n₁ _ => evsn_nil)
          (Pi := fun vs x dx n => ∃ v0 v1, vs = [v0, v1] ∧ StreamO w v0 v1 x dx n) ?i2 (rm.le (by decide))) ?i3
        case i1 =>
          refine hide2 fun _ u9 => ?_
          rintro vs n ⟨v, n₁, u, n₂, -, ⟨rfl, rfl⟩, rfl, rfl⟩
          refine u9 _ _ ?_; clear u9
          intro x dx
          exact fun A outer base g s R Pr room hf hQ hE => Name_init (v0 := v) A outer base g s R Pr room hf (fun u n s' hp B => hQ u n s' ⟨hp.1, v, rfl, hp.2⟩ B) hE
        case i2 =>
          refine hide2 fun _ u9 => ?_
          rintro vs n ⟨v, n₁, u, n₂, -, ⟨v', n₃, u', n₄, -, ⟨rfl, rfl⟩, rfl, rfl⟩, rfl, rfl⟩
          refine u9 _ _ ?_; clear u9
          intro x dx
          exact fun A outer base g s R Pr room hf hQ hE => Stream_init (v0 := v) (v1 := v') A outer base g s R Pr room hf (fun u n s' hp B => hQ u n s' ⟨hp.1, v, v', rfl, hp.2⟩ B) hE
        case i3 =>
          refine hide2 fun _ u9 => ?_
          rintro v n ⟨vs, n₀, x, dx, n₁, ⟨v1, m1, u1, m2, ⟨dd, od', v2, m3, rfl, rfl, q1, q2, vs2, m4, x2, dx2, m5, ⟨v3, m6, u3, m7, ⟨⟨ts, rfl⟩, rfl⟩, ⟨rfl, rfl⟩, rfl, rfl⟩, rfl, ⟨v0, q3, q4⟩, rfl⟩, ⟨v4, m8, u4, m9, ⟨⟨tb, rfl⟩, rfl⟩, ⟨rfl, rfl⟩, rfl, rfl⟩, rfl, rfl⟩, rfl, ⟨w0, w1, q5, q6⟩, rfl⟩
          refine u9 _ _ ?_; clear u9
          intro g hg
          cases q3; cases q5
          rw [h0]
          have g2 := hg.left
          have g3 := hg.right
          simp only [List.nil_append, List.append_nil] at g3
          exact ⟨x, dd, _, x2, ts, rfl, q6.head g2 rfl, ⟨Heap.dictOf_iff.mpr ⟨od', g3 _ (.head _), q1⟩, q2⟩, by rfl, q4.text (fun p hp => g3 p (.tail _ hp)) rfl⟩
      · obtain ⟨kk, hkk⟩ : ∃ kk, y.2 = kk + 1 := ⟨y.2 - 1, by omega⟩
        walk_at "h"
        obtain ⟨F, tp, f1, f2, t, ov, wl, ys, f3, f4⟩ := hW2 y.2 (by omega) hyc
        walk_at "u"
        refine evx_if_t (ist_cmp ((hnum (by walk_at "mem")).mono fun v hv => ⟨tx, hv⟩ : Ev _ _ _ _ (IsI ((y.2 : Nat) : Int))) (ev_int (x := 0)) (cmp_int (by simp [icmp]; omega))) ?_
        refine EvN.mono (evn_inst (F := F_Reference_init) (k := 1) (mk_Reference _) (kp_Reference _) (ev_glob (g_Reference _)) (evsn_cons (evn_of (hnum (by walk_at "mem"))) fun v n₁ _ => evsn_cons (evn_of (P := (· = .int F.gen t)) (ev_sub (ev_sub (by walk_at "nm" : Ev _ _ _ _ (· = Value.ref wa)) ((hnum (by walk_at "mem")).mono fun v hv => ⟨tx, hv⟩ : Ev _ _ _ _ (IsI ((y.2 : Nat) : Int)))
              (sub_dict (knd := PySem.intKind prg w) (k := ((y.2 : Nat) : Int)) (x := .ref tp) (fun s C => hW1.keeps fun b o => C.keep) (fun j hj => intIs hj) f2)) (ev_int (x := 0)) (sub_tup (k := 0) (vs := [.int F.gen t, ov, .ref wl]) (fun s C => f3.keeps fun b o => C.keep) rfl (by simp)))) fun v n₁ _ => evsn_nil)
          (Pi := fun vs x dx n => ∃ v0 v1, vs = [v0, v1] ∧ ReferenceO w v0 v1 x dx n) ?i4 (rm.le (by decide))) ?i5
        case i4 =>
          refine hide2 fun _ u9 => ?_
          rintro vs n ⟨v, n₁, u, n₂, -, ⟨v', n₃, u', n₄, -, ⟨rfl, rfl⟩, rfl, rfl⟩, rfl, rfl⟩
          refine u9 _ _ ?_; clear u9
          intro x dx
          exact fun A outer base g s R Pr room hf hQ hE => Reference_init (v0 := v) (v1 := v') A outer base g s R Pr room hf (fun u n s' hp B => hQ u n s' ⟨hp.1, v, v', rfl, hp.2⟩ B) hE
        case i5 =>
          refine hide2 fun _ u9 => ?_
          rintro v n ⟨vs, n₀, x, dx, n₁, ⟨v1, m1, u1, m2, ⟨rfl, rfl⟩, ⟨v4, m8, u4, m9, ⟨rfl, rfl⟩, ⟨rfl, rfl⟩, rfl, rfl⟩, rfl, rfl⟩, rfl, ⟨w0, w1, q5, q6⟩, rfl⟩
          refine u9 _ _ ?_; clear u9
          intro g hg
          cases q5
          have g2 := hg.left
          rw [hkk]
          rw [hkk] at q6 f1
          exact ⟨x, tx, t, F, rfl, q6.number g2 rfl, q6.generation g2 rfl, q6.pair g2, f1⟩
    obtain ⟨n₁, rfl, hent⟩ := hv
    refine u9 _ _ ?_; clear u9
    have hnew : k ∉ kvs.map (·.1) ∧ kvs.length ≤ 1000 := by
      have hyi : nl[i] = y := by rw [List.getElem?_eq_getElem hin] at hy; exact Option.some.inj hy
      refine ⟨fun q => ?_, ?_⟩
      · rw [hks] at q
        obtain ⟨z, hz, ez⟩ := List.mem_map.mp q
        have nd := hnl.1
        have hsplit : nl = nl.take i ++ y :: nl.drop (i + 1) := by rw [← hyi, List.getElem_cons_drop hin, List.take_append_drop]
        rw [hsplit, List.map_append, List.nodup_append] at nd
        exact nd.2.2 z.1 (List.mem_map_of_mem (f := (·.1)) hz) y.1 (by rw [List.map_cons]; exact List.mem_cons_self) (by rw [ez, e1])
      · have : kvs.length = (nl.take i).length := by rw [← List.length_map (f := (·.1)), hks, List.length_map]
        rw [this, List.length_take]; omega
    refine ⟨n₁, d, od, objs ++ fz, k, rfl, h1, hnew.2, by walk_at "nm", ev_nameP (by walk_at "mem") (strIs ⟨tl, rfl⟩), fun od' hod => ?_⟩
    rw [stored_new hnew.1] at hod
    refine ex_nil fun s C => ⟨_, (d, od') :: (n₁ ++ objs), ⟨rfl, od', _, n₁ ++ objs, rfl, hod, ?_, fun g hg => ?_⟩, (C.weak (by walk_at "sub")).perm (List.perm_middle.trans (by simp))⟩
    · rw [List.take_succ_eq_append_getElem hin, List.map_append, List.map_append, hks]
      have : nl[i] = y := by rw [List.getElem?_eq_getElem hin] at hy; exact Option.some.inj hy
      rw [this, e1]; rfl
    rw [List.take_succ_eq_append_getElem hin]
    have : nl[i] = y := by rw [List.getElem?_eq_getElem hin] at hy; exact Option.some.inj hy
    rw [this]
    exact (h2 g hg.right).snoc ⟨e1, hent g hg.left⟩
  · refine hide2 fun _ u9 => ?_
    rintro l n ⟨rfl, od, kvs, objs, rfl, h1, hks, h2⟩
    refine u9 _ _ ?_; clear u9
    refine exx_ret (may := False) (EvX.mono (evn_dict1 (key := "XObject") (fun n => ev_str) fun n => evn_of (by walk_at "nm" : Ev _ _ _ _ (· = Value.ref d))) fun v n h => h) (fun h => h.elim) fun v n s hv C => ?_
    walk_at "h"
    obtain ⟨n₁, rfl, r, o', v', n₂, rfl, rfl, q1, q2, rfl, rfl⟩ := hv
    walk_at "u"
    refine ⟨_, _, C, r, rfl, fun g hg => ⟨_, d, ⟨Heap.dictOf_iff.mpr ⟨o', hg _ (.head _), q1⟩, q2⟩, by rfl, xd_of ⟨Heap.dictOf_iff.mpr ⟨od, hg _ (.tail _ (.head _)), h1⟩, hdm⟩ ?_⟩⟩
    have := h2 g fun p hp => hg p (.tail _ (.tail _ hp))
    rw [hlen, List.take_length] at this
    exact this
section
variable {Γ : G} {l l' : List (Str × Value)} {news news' fz own : List (Addr × Obj)} {s : Shared} {rest : List Stmt} {Q : Flow → Shared → Prop} {E : Value → Shared → Prop}
theorem evn_addl {a b : Expr} {pos : Pos} {d2 : Addr} {xs ys : List Value} {P : Value → List (Addr × Obj) → Prop} (ha : EvN Γ l news a P) (h1 : ∀ v n₁, P v n₁ → ∃ d1, v = .ref d1 ∧ ∀ s, Cx Γ l (n₁ ++ news) s → s.heap.IsList d1 xs.toArray) (hb : ∀ n₁, Ev Γ l (n₁ ++ news) b (· = .ref d2))
    (h2 : ∀ n₁ s, Cx Γ l (n₁ ++ news) s → s.heap.IsList d2 ys.toArray) (hsz : xs.length + ys.length ≤ 100000) : EvN Γ l news (.BinOp a .Add b pos) (fun v n => ∃ D v₁ n₁, v = .ref D ∧ P v₁ n₁ ∧ n = (D, listOf (xs ++ ys).toArray 0) :: n₁) := fun s Q E C k _ =>
  wpAny_BinOp (ha s _ E C (fun u n s₁ hu C₁ => by
    obtain ⟨n₁, rfl, hP⟩ := hu
    obtain ⟨d1, rfl, hl1⟩ := h1 u n₁ hP
    refine hb n₁ s₁ _ E C₁ fun v s₂ hv C₂ => ?_
    subst hv
    obtain ⟨m, F, hm⟩ := C₂.fr
    refine PyProof.Rows.add_lists F C₂.nw (hl1 s₂ C₂) (h2 n₁ s₂ C₂) (fun h' F' N' => k _ _ _ ⟨(s₂.heap.objs.size, listOf (xs ++ ys).toArray 0) :: n₁, rfl, s₂.heap.objs.size, .ref d1, n₁, rfl, hP, rfl⟩ ⟨C₂.ok, ⟨m, F', hm⟩, N', ?_, C₂.gens, C₂.drawn, C₂.os⟩) (Nat.le_trans hsz (by rw [sizeLine_eq]; decide))
    show (s₂.heap.objs.size :: (n₁ ++ news).map (·.1)).Nodup
    rw [List.nodup_cons]
    refine ⟨fun q => ?_, C₂.nd⟩
    obtain ⟨p, hp, e⟩ := List.mem_map.mp q
    exact absurd (e ▸ Heap.lt_size (C₂.nw p hp).1) (Nat.lt_irrefl _)) (fun h => h.elim))
end
theorem inst1 {w : World} {F : FI} {C : Addr} {O : Value → Addr → Addr → List (Addr × Obj) → Prop} {R : List Value → List (Addr × Obj) → Prop} (c : ∀ x dx v0, CtC w F.f [.ref x, v0] (fun _ => True) [(x, instObj C dx), (dx, emptyDict)] (fun v n => v = .none ∧ O v0 x dx n) False 1) (hR : ∀ vs n, R vs n → ∃ v0, vs = [v0]) :
    ∀ vs n, R vs n → ∀ x dx, CtC w F.f (.ref x :: vs) (fun _ => True) [(x, instObj C dx), (dx, emptyDict)] (fun v n => v = .none ∧ ∃ v0, vs = [v0] ∧ O v0 x dx n) False 1 := fun vs n h x dx => by
  obtain ⟨v0, rfl⟩ := hR vs n h
  exact fun A outer base g s R Pr room hf hQ hE => c x dx v0 A outer base g s R Pr room hf (fun u n s' hp B => hQ u n s' ⟨hp.1, v0, rfl, hp.2⟩ B) hE
theorem inst2 {w : World} {F : FI} {C : Addr} {O : Value → Value → Addr → Addr → List (Addr × Obj) → Prop} {R : List Value → List (Addr × Obj) → Prop} (c : ∀ x dx v0 v1, CtC w F.f [.ref x, v0, v1] (fun _ => True) [(x, instObj C dx), (dx, emptyDict)] (fun v n => v = .none ∧ O v0 v1 x dx n) False 1) (hR : ∀ vs n, R vs n → ∃ v0 v1, vs = [v0, v1]) :
    ∀ vs n, R vs n → ∀ x dx, CtC w F.f (.ref x :: vs) (fun _ => True) [(x, instObj C dx), (dx, emptyDict)] (fun v n => v = .none ∧ ∃ v0 v1, vs = [v0, v1] ∧ O v0 v1 x dx n) False 1 := fun vs n h x dx => by
  obtain ⟨v0, v1, rfl⟩ := hR vs n h
  exact fun A outer base g s R Pr room hf hQ hE => c x dx v0 v1 A outer base g s R Pr room hf (fun u n s' hp B => hQ u n s' ⟨hp.1, v0, v1, rfl, hp.2⟩ B) hE
theorem AllR.mapS {R : Value → Option Str → Prop} : ∀ {ms : List Value} {ws : List Str}, AllR (fun v c => R v (some c)) ms ws → AllR R ms (ws.map some)
  | [], [], _ => trivial
  | _ :: _, _ :: _, h => ⟨h.1, AllR.mapS h.2⟩
theorem rows_of {g : Heap} {r : Addr} {vs : List Value} {ops : List (Option Str)} (h : g.IsList r vs.toArray) (a : AllR (fun v c => ∃ o, v = .ref o ∧ OpAt g o c) vs ops) : RowsAt g r ops := ⟨vs, h, a.length, fun i v c h1 h2 => a.get i v c h1 h2⟩
theorem law_rows {w : World} {wl : Addr} {ys : List Value} {ws : List Str} {ends : Bool} (hw : AllR (fun y c => IsS c y) ys ws) (hl : ws.length ≤ 100) :
    Ct w F_law_rows.f [.ref wl, .bool ends] (fun g => g.IsList wl ys.toArray) [] (fun v n => ∃ r, v = .ref r ∧ ∀ g, Std n g → RowsAt g r (rowsOf ends ws)) False 4 := by
  refine ct_def (F := F_law_rows) (binds := [(Str.ofString "wishes", .ref wl), (Str.ofString "has_ends", .bool ends)]) (k := 3) G_law_rows (by kernel_rfl) (by kernel_rfl) (by kernel_rfl) fun A s₀ g L outer base hf rm => ?_
  have hlen := hw.length
  conv => { arg 4; whnf }
  refine exx_assign_comp (own := []) (N := ys.toArray.size) (P := fun i v => ys.toArray[i]? = some v) (fun i vs n => ∀ g, Std n g → AllR (fun v c => ∃ o, v = .ref o ∧ OpAt g o (some c)) vs (ws.take i)) (makesW_list (by walk_at "nm") (.inl hf) (fun p hp => nomatch hp)) (fun g _ => trivial) (fun _ _ _ _ p hp => nomatch hp) (by simp; omega) (by rfl) (by kernel_rfl) (by kernel_rfl) (names_of (by kernel_rfl)) (by kernel_rfl) (by kernel_rfl) ?turn (by kernel_rfl) (by walk_at "sub") (by kernel_rfl) fun D ms nm hJ hml => ?_
  case turn =>
    intro i v vs n fz C hi hv hJ hx
    have hv' : ys[i]? = some v := by simpa using hv
    have hin : i < ws.length := by rw [List.size_toArray] at hi; omega
    have hvc : IsS ws[i] v := hw.get i v ws[i] hv' (by first | (walk_at "in"; done) | simp [hin])
    obtain ⟨tc, rfl⟩ := hvc
    have hx' : ∀ m p, Ev (G.comp ⟨w, A, s₀, g, L, outer, base, F_law_rows.env L⟩ _ _ C) [(Str.ofString "wishes", .ref wl), (Str.ofString "has_ends", .bool ends)] (m ++ (n ++ fz)) (.Name "letter" p) (· = .str ws[i] tc) := fun m p => by rw [← List.append_assoc]; exact hx (m ++ n) p
    refine EvX.mono (evn_inst (F := F_Operation_init) (k := 1) (mk_Operation _) (kp_Operation _) (ev_glob (g_Operation _)) (evsn_cons (evn_of ev_str) fun _ _ _ => evsn_cons (evn_list (evsn_cons (evn_inst (F := F_Name_init) (k := 1) (mk_Name _) (kp_Name _) (ev_glob (g_Name _)) (evsn_cons (evn_of (hx' _ _)) fun _ _ _ => evsn_nil)
        (inst1 (fun x dx v0 => Name_init (v0 := v0)) hR1) (rm.le (by decide))) fun _ _ _ => evsn_nil) hL1) fun _ _ _ => evsn_nil)
        (inst2 (fun x dx v0 v1 => Operation_init (v0 := v0) (v1 := v1)) hR2) (rm.le (by decide))) ?_
    refine hide2 fun _ u9 => ?_
    rintro u n' ⟨n₁, rfl, vs1, n₀, x, dx, n₂, ⟨_, m1, _, m2, ⟨⟨td, rfl⟩, rfl⟩, ⟨_, m3, _, m4, ⟨la, _, m5, rfl, ⟨_, m6, _, m7, ⟨_, m8, xn, dxn, m9, ⟨_, _, _, _, ⟨rfl, rfl⟩, ⟨rfl, rfl⟩, rfl, rfl⟩, rfl, ⟨v0, q1, q2⟩, rfl⟩, ⟨rfl, rfl⟩, rfl, rfl⟩, rfl⟩, ⟨rfl, rfl⟩, rfl, rfl⟩, rfl, rfl⟩, rfl, ⟨w0, w1, q3, q4⟩, rfl⟩
    refine u9 _ _ ?_; clear u9
    cases q1; cases q3
    refine ⟨_, by rw [← List.append_assoc], fun g' hg => ?_⟩
    rw [List.take_succ_eq_append_getElem hin]
    refine (hJ g' hg.right).snoc ⟨x, rfl, ?_⟩
    have g1 := hg.left.left
    have g2 := hg.left.right
    simp only [List.nil_append, List.append_nil] at g2
    exact ⟨td, la, xn, tc, q4.word g1 rfl, q4.operands g1 rfl, ⟨_, g2 _ (.head _), rfl, _, rfl⟩, q2.text (fun p hp => g2 p (.tail _ hp)) rfl⟩
  have hJ' : ∀ g, Std nm g → AllR (fun v c => ∃ o, v = .ref o ∧ OpAt g o (some c)) ms ws := fun g hg => by
    have := hJ g hg
    rwa [List.size_toArray, hlen, List.take_length] at this
  have hmsz : ms.length = ws.length := by rw [hml, List.size_toArray, hlen]
  -- plain
  refine exx_assign (P := fun v n => ∃ D2 ps n₁, v = .ref D2 ∧ n = n₁ ++ (nm ++ [(D, lstO ms)]) ∧ ps.length ≤ 1 ∧ (∀ p : Addr × Obj, p = (D2, listOf ps.toArray 0) → p ∈ n₁) ∧ ∀ g, Std n₁ g → AllR (fun v c => ∃ o, v = .ref o ∧ OpAt g o c) ps (if ends then [none] else [])) (may := False) ?plain (fun h => h.elim) (by kernel_rfl) (by walk_at "sub") (by kernel_rfl) (hide2 fun _ u9 v n hv => ?_)
  case plain =>
    cases ends with
    | false =>
      refine evx_if_f (ist_bool (by walk_at "nm" : Ev _ _ _ _ (· = Value.bool false))) (EvX.mono (evn_list evsn_nil hL0) ?_)
      intro v n h92
      walk_at "h"
      obtain ⟨n₁, rfl, a, _, _, rfl, ⟨rfl, rfl⟩, rfl⟩ := h92
      walk_at "u"
      exact ⟨a, [], _, rfl, rfl, by simp, fun p hp => by rw [hp]; exact .head _, fun g hg => trivial⟩
    | true =>
      refine evx_if_t (ist_bool (by walk_at "nm" : Ev _ _ _ _ (· = Value.bool true))) (EvX.mono (evn_list (evsn_cons (evn_inst (F := F_Operation_init) (k := 1) (mk_Operation _) (kp_Operation _) (ev_glob (g_Operation _)) (evsn_cons (evn_of ev_str) fun _ _ _ => evsn_cons (evn_list (evsn_cons evn_dict0 fun _ _ _ => evsn_cons (evn_inst (F := F_String_init) (k := 1) (mk_String _) (kp_String _) (ev_glob (g_String _)) (evsn_cons (evn_of ev_bytes) fun _ _ _ => evsn_nil)
          (inst1 (O := fun _ _ _ _ => True) (fun x dx v0 => String_init (v0 := v0)) hR1) (rm.le (by decide))) fun _ _ _ => evsn_nil) hL2) fun _ _ _ => evsn_nil)
          (inst2 (fun x dx v0 v1 => Operation_init (v0 := v0) (v1 := v1)) hR2) (rm.le (by decide))) fun _ _ _ => evsn_nil) hL1) ?_)
      refine hide2 fun _ u9 => ?_
      rintro v n ⟨n₁, rfl, a, _, _, rfl, ⟨_, m6, _, m7, ⟨_, m8, xo, dxo, m9, ⟨_, m10, _, m11, ⟨⟨tb, rfl⟩, rfl⟩, ⟨_, m12, _, m13, ⟨la, _, m14, rfl, -, rfl⟩, ⟨rfl, rfl⟩, rfl, rfl⟩, rfl, rfl⟩, rfl, ⟨w0, w1, q3, q4⟩, rfl⟩, ⟨rfl, rfl⟩, rfl, rfl⟩, rfl⟩
      refine u9 _ _ ?_; clear u9
      cases q3
      refine ⟨a, [.ref xo], _, rfl, rfl, by simp, fun p hp => by rw [hp]; exact .head _, fun g hg => ⟨⟨xo, rfl, tb, la, ?_, ?_⟩, trivial⟩⟩
      · exact q4.word (fun p hp => hg p (by first | (walk_at "in"; done) | simp [hp])) rfl
      · exact q4.operands (fun p hp => hg p (by first | (walk_at "in"; done) | simp [hp])) rfl
  obtain ⟨D2, ps, n₁, rfl, rfl, hps, hm2, hpl⟩ := hv
  refine u9 _ _ ?_; clear u9
  have hD2 : ∀ {l : List (Str × Value)} m s, Cx ⟨w, A, s₀, g, L, outer, base, F_law_rows.env L⟩ l (m ++ (n₁ ++ (nm ++ [(D, lstO ms)]))) s → s.heap.IsList D2 ps.toArray := fun m s C => ⟨_, C.obj (List.mem_append_right _ (List.mem_append_left _ (hm2 _ rfl))), rfl, _, rfl⟩
  have hD : ∀ {l : List (Str × Value)} m s, Cx ⟨w, A, s₀, g, L, outer, base, F_law_rows.env L⟩ l (m ++ (n₁ ++ (nm ++ [(D, lstO ms)]))) s → s.heap.IsList D ms.toArray := fun m s C => ⟨_, C.obj (List.mem_append_right _ (List.mem_append_right _ (List.mem_append_right _ (.head _)))), rfl, _, rfl⟩
  refine exx_ret (may := False) (evn_addl (xs := ps ++ ms) (ys := ps) (d2 := D2) (evn_addl (xs := ps) (ys := ms) (d2 := D) (evn_of (by walk_at "nm" : Ev _ _ _ _ (· = Value.ref D2))) (by rintro _ _ ⟨rfl, rfl⟩; exact ⟨D2, rfl, fun s C => hD2 [] s C⟩) (fun m => by walk_at "nm") (fun m s C => hD m s C) (by omega))
    (by rintro _ _ ⟨D3, _, _, rfl, ⟨rfl, rfl⟩, rfl⟩; exact ⟨D3, rfl, fun s C => ⟨_, C.obj (.head _), rfl, _, rfl⟩⟩) (fun m => by walk_at "nm") (fun m s C => hD2 m s C) (by simp; omega)) (fun h => h.elim) fun v n s hv C => ?_
  walk_at "h"
  obtain ⟨n₂, rfl, D4, _, _, rfl, ⟨D3, _, _, rfl, ⟨rfl, rfl⟩, rfl⟩, rfl⟩ := hv
  walk_at "u"
  refine ⟨_, _, C, D4, rfl, fun g' hg => rows_of (vs := ps ++ ms ++ ps) ⟨_, hg _ (.head _), rfl, _, rfl⟩ ?_⟩
  have z1 : Std n₁ g' := fun p hp => hg p (by first | (walk_at "in"; done) | simp [hp])
  have z2 : Std nm g' := fun p hp => hg p (by first | (walk_at "in"; done) | simp [hp])
  unfold rowsOf
  refine ((hpl g' z1).app ?_).app (hpl g' z1)
  exact (hJ' g' z2).mapS
section
variable {Γ : G} {l l' : List (Str × Value)} {news news' fz own : List (Addr × Obj)} {s : Shared} {rest : List Stmt} {Q : Flow → Shared → Prop} {E : Value → Shared → Prop}
theorem EvX.turn {e : Expr} {P P' : Value → List (Addr × Obj) → Prop} {may : Prop} (h : EvX Γ l news e P may) (k : ∀ v n, P v n → ∃ m n', n.Perm m ∧ n'.Sublist m ∧ P' v n') : EvX Γ l news e P' may := fun s Q E C q hE =>
  h s Q E C (fun v n s' hp C' => let ⟨m, n', h1, h2, h3⟩ := k v n hp; q v n' s' h3 ((C'.perm h1).drop h2)) hE
theorem CallX.perm {f : Addr} {vs : List Value} {P : Value → List (Addr × Obj) → Prop} {may : Prop} (h : CallX Γ l news' f vs P may) (p : news.Perm news') : CallX Γ l news f vs P may := fun s Q E C => h s Q E (C.perm p)
def IsTX (Γ : G) (l : List (Str × Value)) (news : List (Addr × Obj)) (e : Expr) (P : Bool → List (Addr × Obj) → Prop) (may : Prop) : Prop :=
  ∀ (s : Shared) (Q : Bool → Shared → Prop) (E : Value → Shared → Prop), Cx Γ l news s → (∀ v n s', P v n → Cx Γ l n s' → Q v s') → (may → ∀ e s', Flies Γ e s' → E e s') → wpAny (model prg Γ.w) Γ.A (isTrue e Γ.env (eval e Γ.env)) Q E s
theorem istx_bool {e : Expr} {P : Bool → List (Addr × Obj) → Prop} {may : Prop} (h : EvX Γ l news e (fun v n => ∃ b, v = .bool b ∧ P b n) may) (heq : isTrue e Γ.env (eval e Γ.env) = (do let v ← eval e Γ.env; standAt e.pos; holding [v] (truthy v)) := by with_unfolding_all rfl) : IsTX Γ l news e P may := fun s Q E C k hE =>
  isTrue_plain (h s _ E C (fun v n s' hv C' => by obtain ⟨b, rfl, hP⟩ := hv; exact wpAny_truthy_bool (k _ _ _ hP C')) hE) heq
theorem istx_not {e : Expr} {pos : Pos} {P : Bool → List (Addr × Obj) → Prop} {may : Prop} (h : IsTX Γ l news e P may) : IsTX Γ l news (.UnaryOp .Not e pos) (fun b n => P (!b) n) may := fun s Q E C k hE =>
  isTrue_not (h s _ E C (fun v n s' hv C' => k _ _ _ (by show P (!!v) n; rw [Bool.not_not]; exact hv) C') hE)
theorem exx_if {t : Expr} {b o : List Stmt} {pos : Pos} {P : Bool → List (Addr × Obj) → Prop} {may : Prop} (ht : IsTX Γ l news t P may) (hE : may → ∀ e s', Flies Γ e s' → E e s') (k : ∀ c n, P c n → Ex Γ l n ((if c then b else o) ++ rest) Q E) : Ex Γ l news (.If t b o pos :: rest) Q E := fun s C => by
  have e : execs (.If t b o pos :: rest) Γ.env = (standAt pos >>= fun _ => isTrue t Γ.env (eval t Γ.env) >>= fun c => execs ((if c then b else o) ++ rest) Γ.env) := by
    show ((standAt pos >>= fun _ => isTrue t Γ.env (eval t Γ.env) >>= fun c => if c = true then execs b Γ.env else execs o Γ.env) >>= fun f => match f with | .next => execs rest Γ.env | f => pure f) = _
    show ((standAt pos).bind fun _ => (isTrue t Γ.env (eval t Γ.env)).bind _).bind _ = (standAt pos).bind fun _ => (isTrue t Γ.env (eval t Γ.env)).bind _
    rw [Sem.bind_assoc]
    refine congrArg _ (funext fun _ => ?_)
    rw [Sem.bind_assoc]
    refine congrArg _ (funext fun c => ?_)
    cases c
    · exact (execs_app Γ.env rest o).symm
    · exact (execs_app Γ.env rest b).symm
  rw [e]
  exact wpAny_bind (wpAny_standAt (wpAny_bind (ht s _ E C (fun c' n s' hc C' => k c' n hc s' C') hE)))
theorem evn_addl2 {a b : Expr} {pos : Pos} {d1 : Addr} {xs ys : List Value} {P : Value → List (Addr × Obj) → Prop} (ha : Ev Γ l news a (· = .ref d1)) (h1 : ∀ n₁ s, Cx Γ l (n₁ ++ news) s → s.heap.IsList d1 xs.toArray) (hb : EvN Γ l news b P)
    (h2 : ∀ v n₁, P v n₁ → ∃ d2, v = .ref d2 ∧ ∀ s, Cx Γ l (n₁ ++ news) s → s.heap.IsList d2 ys.toArray) (hsz : xs.length + ys.length ≤ 100000) : EvN Γ l news (.BinOp a .Add b pos) (fun v n => ∃ D n₁, v = .ref D ∧ n = (D, listOf (xs ++ ys).toArray 0) :: n₁) := fun s Q E C k _ =>
  wpAny_BinOp (ha s _ E C fun u s₁ hu C₁ => hb s₁ _ E C₁ (fun v n s₂ hv C₂ => by
    obtain ⟨n₁, rfl, hP⟩ := hv
    obtain ⟨d2, rfl, hl2⟩ := h2 v n₁ hP
    subst hu
    obtain ⟨m, F, hm⟩ := C₂.fr
    refine PyProof.Rows.add_lists F C₂.nw (h1 n₁ s₂ C₂) (hl2 s₂ C₂) (fun h' F' N' => k _ _ _ ⟨(s₂.heap.objs.size, listOf (xs ++ ys).toArray 0) :: n₁, rfl, s₂.heap.objs.size, n₁, rfl, rfl⟩ ⟨C₂.ok, ⟨m, F', hm⟩, N', ?_, C₂.gens, C₂.drawn, C₂.os⟩) (Nat.le_trans hsz (by rw [sizeLine_eq]; decide))
    show (s₂.heap.objs.size :: (n₁ ++ news).map (·.1)).Nodup
    rw [List.nodup_cons]
    refine ⟨fun q => ?_, C₂.nd⟩
    obtain ⟨p, hp, e⟩ := List.mem_map.mp q
    exact absurd (e ▸ Heap.lt_size (C₂.nw p hp).1) (Nat.lt_irrefl _)) (fun h => h.elim))
theorem ints_reads {h : Heap} : ∀ {vs : List Value} {ks : List Int}, AllR (fun v k => IsI k v) vs ks → ∃ bs, ReadsAll h vs (ks.map PyData.int) bs
  | [], [], _ => ⟨_, .nil⟩
  | v :: vs, k :: ks, a => by
    obtain ⟨bs, hb⟩ := ints_reads (h := h) a.2
    obtain ⟨t, rfl⟩ := a.1
    exact ⟨_, .cons (.int _ _) hb⟩
theorem ints_lay : ∀ ks : List Int, PyData.canLayAll0 (ks.map PyData.int) = true
  | [] => by simp [PyData.canLayAll0]
  | k :: ks => by simp [PyData.canLayAll0, PyData.canLay0, ints_lay ks]
theorem ints_depth : ∀ ks : List Int, PyData.depthAll (ks.map PyData.int) = 0
  | [] => by simp [PyData.depthAll]
  | k :: ks => by simp [PyData.depthAll, PyData.depth, ints_depth ks]
theorem ints_any (x : Int) : ∀ ks : List Int, ((ks.map PyData.int).any fun y => PyData.eqv y (.int x)) = decide (x ∈ ks)
  | [] => by simp
  | k :: ks => by
    rw [List.map_cons, List.any_cons, ints_any x ks]
    by_cases h : k = x
    · subst h; simp [PyData.eqv]
    · have h3 : ¬ x = k := fun e => h e.symm
      simp [PyData.eqv, h, h3]
theorem in_ints {vs : List Value} {ks : List Int} {a : Addr} {x : Int} {c : Bool} (hl : ∀ s, Cx Γ l news s → s.heap.IsList a vs.toArray) (hk : AllR (fun v k => IsI k v) vs ks) (hc : decide (x ∈ ks) = c) : ∀ u v, IsI x u → v = .ref a → Run Γ l news (compareOp .In u v) (· = .bool c) := by
  rintro _ _ ⟨t, rfl⟩ rfl
  refine Run.of fun s Q E C q => ?_
  walk_at "h"
  obtain ⟨o, h1, h2, n, h3⟩ := hl s C
  walk_at "u"
  obtain ⟨bs, hb⟩ := ints_reads (h := s.heap) hk
  refine SeqAt.in_list_reads (.list h1 h2 h3 (by simpa using hb)) (.int x t) (ints_lay ks) (by simp [PyData.canLay0]) ?_ (by rw [ints_any, hc]; exact q _ s.toks rfl)
  have hu := C.ok.hu
  rw [ints_depth]
  have : (9100 : Nat) ≤ cLine := by unfold cLine; omega
  simp; omega
end
def LwPost (W : WorldD) (n : Nat) (res : Option (List Str)) (da : Addr) (dvs : List Value) (v : Value) (m : List (Addr × Obj)) : Prop :=
  ∃ add k', m = [(da, listOf (dvs ++ add).toArray k')] ∧ add.length ≤ cost n ∧ match res with
    | some out => v = .bool true ∧ AllR (fun y c => IsS c y) add out
    | none => v = .bool false
def LwOk (w : World) (wa : Addr) (count : Nat) (W : WorldD) (n kd : Nat) : Prop := ∀ (c : Str) (t : Tok) (na aa da : Addr) (kvs : List (Str × Value)) (nl : List (Str × Nat)) (avs : List Value) (ab : List Nat) (dvs : List Value) (k : Nat),
  AllR KvR kvs nl → (∀ x ∈ nl, x.2 ≤ count) → AllR (fun v k => IsI k v) avs (ab.map fun k => ((k : Nat) : Int)) → (∀ k ∈ ab, 0 < k) → ab.length + n = 8 → dvs.length + cost n ≤ 90000 →
  Ct w F_law_walk.f [.ref wa, .str c t, .ref na, .ref aa, .ref da] (fun g => WdF w g wa count W ∧ SD w (PySem.strKind prg w) g na kvs ∧ g.IsList aa avs.toArray) [(da, listOf dvs.toArray k)] (LwPost W n (walk W n c (nmF nl) ab) da dvs) False kd
theorem nmF_mem {nl : List (Str × Nat)} {c : Str} {j : Nat} (h : nmF nl c = some j) : ∃ x ∈ nl, x.2 = j := by
  unfold nmF at h
  obtain ⟨x, h1, h2⟩ := Option.map_eq_some_iff.mp h
  exact ⟨x, List.mem_of_find?_eq_some h1, h2⟩
theorem walks_snoc {f : Str → Option (List Str)} {ws : List Str} {i : Nat} (hi : i < ws.length) : walks (paints f) ((ws.take (i + 1)).map some) = match walks (paints f) ((ws.take i).map some) with | none => none | some a => match f ws[i] with | none => none | some b => some (a ++ b) := by
  rw [List.take_succ_eq_append_getElem hi, List.map_append, walks_app]
  cases walks (paints f) ((ws.take i).map some) with
  | none => rfl
  | some a =>
    show (match walks (paints f) [some ws[i]] with | none => none | some b => some (a ++ b)) = _
    rw [walks_cons]
    show (match (match f ws[i] with | none => none | some a => match walks (paints f) [] with | none => none | some b => some (a ++ b)) with | none => none | some b => some (a ++ b)) = _
    cases f ws[i] with
    | none => rfl
    | some b => simp [walks]
theorem walks_none {f : Str → Option (List Str)} {ws : List Str} {i : Nat} (hi : i ≤ ws.length) (h : walks (paints f) ((ws.take i).map some) = none) : walks (paints f) (rowsOf true ws) = none := by
  have e : rowsOf true ws = [none] ++ ((ws.take i).map some ++ ((ws.drop i).map some ++ [none])) := by
    unfold rowsOf; rw [← List.append_assoc (_ : List (Option Str)), ← List.append_assoc (_ : List (Option Str)), List.append_assoc [none], ← List.map_append, List.take_append_drop]; simp
  rw [e, walks_app, walks_app, h]
  cases walks (paints f) [none] <;> rfl
theorem walks_rows {f : Str → Option (List Str)} {ws : List Str} {o : List Str} (h : walks (paints f) (ws.map some) = some o) : walks (paints f) (rowsOf true ws) = some (("" : Str) :: (o ++ [("" : Str)])) := by
  unfold rowsOf
  rw [walks_app, walks_app, h]
  simp [walks, paints]
def LwB (n : Nat) (res : Option (List Str)) (da : Addr) (te : Tok) (dvs add : List Value) (fz : List (Addr × Obj)) (b : Bool) (m : List (Addr × Obj)) : Prop :=
  ∃ add' k'', m = [(da, listOf (dvs ++ (Value.str "" te :: (add ++ add'))).toArray k'')] ++ fz ∧ add'.length ≤ cost n ∧ match res with | some o => b = true ∧ AllR (fun y c => IsS c y) add' o | none => b = false
theorem law_walk_step {w : World} {wa : Addr} {count : Nat} {W : WorldD} {n kd : Nat} (hWw : ∀ k F, W k = some F → F.wishes.length ≤ 2) (ih : ∀ m, n = m + 1 → LwOk w wa count W m kd) : LwOk w wa count W n (kd + 1) := by
  intro c t na aa da kvs nl avs ab dvs k hkv hnl hav hab hlen hsz
  refine ct_def (F := F_law_walk) (binds := [(Str.ofString "world", .ref wa), (Str.ofString "letter", .str c t), (Str.ofString "names", .ref na), (Str.ofString "above", .ref aa), (Str.ofString "due", .ref da)]) G_law_walk (by kernel_rfl) (by kernel_rfl) (by kernel_rfl) fun A s₀ g L outer base hf rm => ?_
  obtain ⟨hW, hN, hA⟩ := hf
  have hcp := cost_pos n
  have havl : avs.length = ab.length := by rw [hav.length, List.length_map]
  have hls : ∀ {l : List (Str × Value)} {news : List (Addr × Obj)} s, Cx ⟨w, A, s₀, g, L, outer, base, F_law_walk.env L⟩ l news s → s.heap.IsList aa avs.toArray := fun s C => isList_keeps hA fun b o => C.keep
  conv => { arg 4; whnf }
  obtain ⟨num, hnum⟩ : ∃ num : Int, num = match nmF nl c with | none => -1 | some k => ((k : Nat) : Int) := ⟨_, rfl⟩
  refine ex_assign (P := IsI num) (Run.mono (ev_get2 (knd := PySem.strKind prg w) (k := c) (kvs := kvs) (R := IsS c) (R' := IsI (-1)) (by walk_at "nm" : Ev _ _ _ _ (· = Value.ref na)) (ev_nameP (by walk_at "mem") ⟨_, rfl⟩) (ev_neg (ev_int (x := 1))) (fun s C => hN.keeps fun b o => C.keep) (fun _ => strIs) (by walk_at "mc")) fun v hv => ?_) (by kernel_rfl) (by walk_at "sub") (by kernel_rfl) fun v hv => ?_
  · obtain ⟨x, hx, rfl⟩ := hv
    have := nm_value hkv c
    rw [hnum]
    cases h : nmF nl c with
    | none => rw [h] at this; rw [this]; exact hx
    | some k => rw [h] at this; obtain ⟨v, e, hv⟩ := this; rw [e]; exact hv
  obtain ⟨tn, rfl⟩ := hv
  have hNum : ∀ {l : List (Str × Value)} {news : List (Addr × Obj)} {p : Pos}, (Str.ofString "number", Value.int num tn) ∈ l → Ev ⟨w, A, s₀, g, L, outer, base, F_law_walk.env L⟩ l news (.Name "number" p) (IsI num) := fun hm => ev_nameP (P := IsI num) hm ⟨_, rfl⟩
  have hLen : ∀ {l : List (Str × Value)} {news : List (Addr × Obj)} {p1 p2 p3 : Pos}, (Str.ofString "above", Value.ref aa) ∈ l → Ev ⟨w, A, s₀, g, L, outer, base, F_law_walk.env L⟩ l news (.Call (.Name "len" p1) [.Name "above" p2] [] p3) (IsI (avs.length : Int)) := fun hm =>
    ev_b1 (ev_bltn (b_len _) (b_len' _)) (ev_name (v := .ref aa) hm) fun v hv => by subst hv; exact len_list' hls (by omega)
  cases hc : nmF nl c with
  | none =>
    rw [hc] at hnum
    have hw : walk W n c (nmF nl) ab = none := by cases n <;> simp [walk, hc]
    refine ex_if_t (ist_or_t (ist_cmp (hNum (by walk_at "mem")) (ev_int (x := 0)) (cmp_int (by subst hnum; rfl)))) ?_
    exact ex_ret ev_bool fun v s hv C => ⟨_, _, C, [], k, by simp, by simp, by rw [hw]; exact hv⟩
  | some j =>
    rw [hc] at hnum
    dsimp only at hnum
    have hn0 : (0 : Int) ≤ num := by rw [hnum]; exact Int.natCast_nonneg _
    have hin : decide (num ∈ ab.map fun k => ((k : Nat) : Int)) = decide (j ∈ ab) := by
      rw [decide_eq_decide, hnum]
      constructor
      · intro h; obtain ⟨x, hx, e⟩ := List.mem_map.mp h; have : x = j := by omega
        exact this ▸ hx
      · intro h; exact List.mem_map.mpr ⟨j, h, rfl⟩
    have t1 : ∀ {l : List (Str × Value)} {news : List (Addr × Obj)} {p1 p2 p3 : Pos} {i : Nat}, (Str.ofString "number", Value.int num tn) ∈ l → IsT ⟨w, A, s₀, g, L, outer, base, F_law_walk.env L⟩ l news (.Compare (.Name "number" p1) [.Lt] [.Constant (.int 0) i p2] p3) false := fun hm => ist_cmp (hNum hm) (ev_int (x := 0)) (cmp_int (by simp [icmp]; omega))
    have t2 : ∀ {l : List (Str × Value)} {news : List (Addr × Obj)} {p1 p2 p3 : Pos} {b : Bool}, decide (j ∈ ab) = b → (Str.ofString "number", Value.int num tn) ∈ l → (Str.ofString "above", Value.ref aa) ∈ l → IsT ⟨w, A, s₀, g, L, outer, base, F_law_walk.env L⟩ l news (.Compare (.Name "number" p1) [.In] [.Name "above" p2] p3) b := fun hb hm hm2 =>
      ist_cmp (hNum hm) (ev_name (v := .ref aa) hm2) (in_ints hls hav (hin.trans hb))
    cases j with
    | zero =>
      have hw : walk W n c (nmF nl) ab = some [c] := by cases n <;> simp [walk, hc]
      have h0 : ¬ 0 ∈ ab := fun h => absurd (hab 0 h) (Nat.lt_irrefl _)
      refine ex_if_f (ist_or_f (t1 (by walk_at "mem")) (ist_or_f (t2 (by first | (walk_at "in"; done) | simp [h0]) (by walk_at "mem") (by walk_at "mem")) (ist_or_f (ist_and_f (ist_cmp (hNum (by walk_at "mem")) (ev_int (x := 0)) (cmp_int (by subst hnum; rfl)))) ist_or_nil))) ?_
      refine ex_if_t (ist_cmp (hNum (by walk_at "mem")) (ev_int (x := 0)) (cmp_int (by subst hnum; rfl))) ?_
      refine exx_expr (P := fun n => n = [(da, listOf (dvs ++ [Value.str c t]).toArray (k + 1))]) (may := False) (EvX.mono (evx_append (its := dvs.toArray) (n := k) (D := da) (may := False) (by walk_at "nm") (by walk_at "nm" : Ev _ _ _ _ (· = Value.str c t)) (by walk_at "mem") (fun v => .head) (by rw [List.size_toArray]; omega) (by walk_at "mc")) fun v n h => ?_) (fun h => h.elim) fun n hn => ?_
      · walk_at "h"
        obtain ⟨rfl, x, rfl, rfl⟩ := h
        walk_at "u"
        exact ⟨rfl, by simp [List.push_toArray]⟩
      subst hn
      exact ex_ret ev_bool fun v s hv C => ⟨_, _, C, [Value.str c t], k + 1, rfl, by simp; omega, by rw [hw]; exact ⟨hv, ⟨t, rfl⟩, trivial⟩⟩
    | succ j =>
      by_cases hja : j + 1 ∈ ab
      · have hw : walk W n c (nmF nl) ab = none := by cases n <;> simp [walk, hc, hja]
        refine ex_if_t (ist_or_f (t1 (by walk_at "mem")) (ist_or_t (t2 (by first | (walk_at "in"; done) | simp [hja]) (by walk_at "mem") (by walk_at "mem")))) ?_
        exact ex_ret ev_bool fun v s hv C => ⟨_, _, C, [], k, by simp, by simp, by rw [hw]; exact hv⟩
      · have hp0 : 0 < num := by rw [hnum]; exact Int.natCast_pos.mpr (Nat.succ_pos _)
        have hgt : icmp .Gt num 0 = some true := by show some (decide _) = some true; rw [decide_eq_true hp0]
        have hne0 : icmp .Eq num 0 = some false := by show some (num == 0) = some false; rw [beq_eq_false_iff_ne.mpr (by omega)]
        have hl8 : icmp .Eq (avs.length : Int) 8 = some (decide (n = 0)) := by
          show some ((avs.length : Int) == 8) = some (decide (n = 0))
          congr 1
          rw [Bool.beq_eq_decide_eq, decide_eq_decide]
          omega
        by_cases hn : n = 0
        · have hw : walk W n c (nmF nl) ab = none := by subst hn; simp [walk, hc]
          refine ex_if_t (ist_or_f (t1 (by walk_at "mem")) (ist_or_f (t2 (by first | (walk_at "in"; done) | simp [hja]) (by walk_at "mem") (by walk_at "mem")) (ist_or_t (ist_and_t (ist_cmp (hNum (by walk_at "mem")) (ev_int (x := 0)) (cmp_int hgt)) (ist_and_t (ist_cmp (hLen (by walk_at "mem")) (ev_int (x := 8)) (cmp_int (hl8.trans (by first | (walk_at "in"; done) | simp [hn])))) ist_and_nil))))) ?_
          exact ex_ret ev_bool fun v s hv C => ⟨_, _, C, [], k, by simp, by simp, by rw [hw]; exact hv⟩
        · obtain ⟨m, rfl⟩ : ∃ m, n = m + 1 := ⟨n - 1, by omega⟩
          have hih := ih m rfl
          obtain ⟨wkvs, hW1, hW2⟩ := hW
          obtain ⟨xn, hxn, exn⟩ := nmF_mem hc
          have hjc : j + 1 ≤ count := exn ▸ hnl xn hxn
          walk_at "h"
          obtain ⟨F, tp, f1, f2, tg, ov, wl, ys, f3, f4, f5, f6⟩ := hW2 (j + 1) (by omega) hjc
          walk_at "u"
          have hw : walk W (m + 1) c (nmF nl) ab = walks (paints fun c => walk W m c (F.own.getD (nmF nl)) (ab ++ [j + 1])) (rowsOf true F.wishes) := by simp [walk, hc, hja, f1]
          have hwl2 := hWw _ _ f1
          have hcm := cost_pos m
          have hcs := cost_succ m
          refine ex_if_f (ist_or_f (t1 (by walk_at "mem")) (ist_or_f (t2 (by first | (walk_at "in"; done) | simp [hja]) (by walk_at "mem") (by walk_at "mem")) (ist_or_f (ist_and_t (ist_cmp (hNum (by walk_at "mem")) (ev_int (x := 0)) (cmp_int hgt)) (ist_and_f (ist_cmp (hLen (by walk_at "mem")) (ev_int (x := 8)) (cmp_int (hl8.trans (by simp)))))) ist_or_nil))) ?_
          refine ex_if_f (ist_cmp (hNum (by walk_at "mem")) (ev_int (x := 0)) (cmp_int hne0)) ?_
          refine ex_unpack3 (l' := [(Str.ofString "number", .int num tn), (Str.ofString "world", .ref wa), (Str.ofString "letter", .str c t), (Str.ofString "names", .ref na), (Str.ofString "above", .ref aa), (Str.ofString "due", .ref da)]) (P := fun a b c n => a = .int F.gen tg ∧ b = ov ∧ c = .ref wl ∧ n = [(da, listOf dvs.toArray k)]) (may := False)
            (EvX.mono (evx_of (ev_sub (by walk_at "nm" : Ev _ _ _ _ (· = Value.ref wa)) (hNum (by walk_at "mem")) (sub_dict (knd := PySem.intKind prg w) (k := num) (x := .ref tp) (fun s C => hW1.keeps fun b o => C.keep) (fun j hj => intIs hj) (by rw [hnum]; exact f2)))) fun v n h => by
              obtain ⟨rfl, rfl⟩ := h
              exact ⟨tp, _, _, _, rfl, .inl fun s C => f3.keeps fun b o => C.keep, rfl, rfl, rfl, rfl⟩) (fun h => h.elim) (by kernel_rfl) (by kernel_rfl) (by kernel_rfl) (by walk_at "sub") (by kernel_rfl) (by kernel_rfl) (by kernel_rfl) (by kernel_rfl) fun a b c' n hP => ?_
          walk_at "h"
          obtain ⟨rfl, rfl, rfl, rfl⟩ := hP
          walk_at "u"
          -- the names that count within
          obtain ⟨na', kvs', nl', g1, g2, g3, g4, g5⟩ : ∃ na' kvs' nl', SD w (PySem.strKind prg w) g na' kvs' ∧ AllR KvR kvs' nl' ∧ (∀ x ∈ nl', x.2 ≤ count) ∧ F.own.getD (nmF nl) = nmF nl' ∧
              ∀ {l : List (Str × Value)} {news : List (Addr × Obj)} {p1 p2 p3 p4 p5 p6 : Pos} {i : Nat}, (Str.ofString "own", b) ∈ l → (Str.ofString "names", Value.ref na) ∈ l → Ev ⟨w, A, s₀, g, L, outer, base, F_law_walk.env L⟩ l news (.IfExp (.Compare (.Name "own" p1) [.Is] [.Constant .none i p2] p3) (.Name "names" p4) (.Name "own" p5) p6) (· = .ref na') := by
            cases ho : F.own with
            | none =>
              simp only [ho] at f6
              subst f6
              exact ⟨na, kvs, nl, hN, hkv, hnl, rfl, fun h1 h2 => ev_if_t (ist_cmp (ev_name h1) ev_none (cmp_is_none (by rfl))) (ev_name h2)⟩
            | some nm =>
              simp only [ho] at f6
              walk_at "h"
              obtain ⟨na', kvs', nl', rfl, q2, q3, rfl, q5⟩ := f6
              walk_at "u"
              exact ⟨na', kvs', nl', q2, q3, q5, rfl, fun h1 h2 => ev_if_f (ist_cmp (ev_name h1) ev_none (cmp_is_none (by rfl))) (ev_name h1)⟩
          rw [hw, g4]
          refine exx_expr (P := fun n => ∃ te, n = [(da, listOf (dvs ++ [Value.str "" te]).toArray (k + 1))]) (may := False) (EvX.mono (evx_append (its := dvs.toArray) (n := k) (D := da) (may := False) (by walk_at "nm") (ev_str (x := "")) (by walk_at "mem") (fun v => .head) (by rw [List.size_toArray]; omega) (by walk_at "mc")) fun v n h => ?_) (fun h => h.elim) fun n hn => ?_
          · walk_at "h"
            obtain ⟨rfl, x, ⟨te, rfl⟩, rfl⟩ := h
            walk_at "u"
            exact ⟨rfl, te, by simp [List.push_toArray]⟩
          obtain ⟨te, rfl⟩ := hn
          have hyl : ys.length = F.wishes.length := f5.length
          refine ex_forW (own := []) (N := ys.toArray.size) (P := fun i v => ys.toArray[i]? = some v) (may := False) (fun i l n => l = [(Str.ofString "wishes", .ref wl), (Str.ofString "own", b), (Str.ofString "generation", .int F.gen tg), (Str.ofString "number", .int num tn), (Str.ofString "world", .ref wa), (Str.ofString "letter", .str c t), (Str.ofString "names", .ref na), (Str.ofString "above", .ref aa), (Str.ofString "due", .ref da)] ∧
              ∃ add k' out, n = [(da, listOf (dvs ++ (Value.str "" te :: add)).toArray k')] ∧ add.length ≤ i * cost m ∧ walks (paints fun c => walk W m c (nmF nl') (ab ++ [j + 1])) ((F.wishes.take i).map some) = some out ∧ AllR (fun y c => IsS c y) add out)
            (makesW_list (by walk_at "nm") (.inl f4) (fun p hp => nomatch hp)) ⟨rfl, [], k + 1, [], rfl, by simp, by simp [walks], trivial⟩ (by kernel_rfl) ?_ (fun _ _ _ _ p hp => nomatch hp) ?_ ?_
          · rintro i l n ⟨rfl, -⟩; kernel_rfl
          · refine hideT fun _ u9 => ?_
            rintro i v l n fz hi hv ⟨rfl, add, k', out, rfl, h1, h2, h3⟩
            refine u9 _ _ _ _ _ ?_; clear u9
            rw [List.size_toArray] at hi
            have hi' : i < F.wishes.length := by omega
            have hv' : ys[i]? = some v := by simpa using hv
            obtain ⟨one, hone⟩ : ∃ one, one = F.wishes[i] := ⟨_, rfl⟩
            obtain ⟨tv, rfl⟩ := f5.get i v one hv' (by rw [hone]; simp [hi'])
            have hmul : i * cost m ≤ 1 * cost m := Nat.mul_le_mul_right _ (by omega)
            rw [Nat.one_mul] at hmul
            have hbnd : (dvs ++ (Value.str "" te :: add)).length + cost m ≤ 90000 := by simp; omega
            refine exx_if (P := fun b n => LwB m (walk W m one (nmF nl') (ab ++ [j + 1])) da te dvs add fz (!b) n) (may := False)
              (istx_not (P := LwB m (walk W m one (nmF nl') (ab ++ [j + 1])) da te dvs add fz) (istx_bool (EvX.turn (evx_callX G_law_walk (ev_glob (g_law_walk _)) (evsn_cons (evn_of (by walk_at "nm" : Ev _ _ _ _ (· = Value.ref wa))) fun _ _ _ => evsn_cons (evn_of (by walk_at "nm" : Ev _ _ _ _ (· = Value.str one tv))) fun _ _ _ => evsn_cons (evn_of (g5 (by walk_at "mem") (by walk_at "mem"))) fun _ _ _ =>
                evsn_cons (evn_addl2 (xs := avs) (ys := [.int num tn]) (by walk_at "nm" : Ev _ _ _ _ (· = Value.ref aa)) (fun n₁ s C => hls s C) (evn_list (evsn_cons (evn_of (ev_name (v := .int num tn) (by walk_at "mem"))) fun _ _ _ => evsn_nil) hL1)
                  (by rintro _ _ ⟨a2, _, _, rfl, ⟨_, _, _, _, ⟨rfl, rfl⟩, ⟨rfl, rfl⟩, rfl, rfl⟩, rfl⟩; exact ⟨a2, rfl, fun s C => ⟨_, C.obj (.head _), rfl, _, rfl⟩⟩) (by simp; omega)) fun _ _ _ => evsn_cons (evn_of (by walk_at "nm" : Ev _ _ _ _ (· = Value.ref da))) fun _ _ _ => evsn_nil)
                (P := fun v n => ∃ n₁ n₂, n = n₁ ++ (n₂ ++ fz) ∧ LwPost W m (walk W m one (nmF nl') (ab ++ [j + 1])) da (dvs ++ (Value.str "" te :: add)) v n₁) (may := False) (hide2 fun _ u9 vs n hv => ?call)) ?post) (by with_unfolding_all rfl))) (fun h => h.elim) fun b' n hb' => ?_
            case call =>
              obtain ⟨n₁, rfl, _, m1, _, m2, ⟨rfl, rfl⟩, ⟨_, m3, _, m4, ⟨rfl, rfl⟩, ⟨_, m5, _, m6, ⟨rfl, rfl⟩, ⟨_, m7, _, m8, ⟨D, m9, rfl, rfl⟩, ⟨_, m10, _, m11, ⟨rfl, rfl⟩, ⟨rfl, rfl⟩, rfl, rfl⟩, rfl, rfl⟩, rfl, rfl⟩, rfl, rfl⟩, rfl, rfl⟩ := hv
              refine u9 _ _ ?_; clear u9
              refine CallX.perm (news' := [(da, listOf (dvs ++ (Value.str "" te :: add)).toArray k')] ++ (((D, listOf (avs ++ [Value.int num tn]).toArray 0) :: m9) ++ fz)) ?_ ?_
              · refine CallX.mono (Ct.use (hih one tv na' D da kvs' nl' (avs ++ [Value.int num tn]) (ab ++ [j + 1]) (dvs ++ (Value.str "" te :: add)) k' g2 g3 (by rw [List.map_append]; exact hav.snoc ⟨tn, by rw [hnum]⟩) (fun x hx => ?_) (by simp; omega) hbnd) rm fun s C => ⟨⟨wkvs, hW1.keeps fun b o e => (C.drop (List.sublist_append_left _ _)).g_le e, fun q h1 h2 => ?_⟩, g1.keeps fun b o e => (C.drop (List.sublist_append_left _ _)).g_le e, ⟨_, C.frozen (.head _), rfl, _, rfl⟩⟩) fun v n h => ?_
                · rcases List.mem_append.mp hx with hx | hx
                  · exact hab x hx
                  · rw [List.mem_singleton.mp hx]; omega
                · walk_at "h"
                  obtain ⟨F', tp', b1, b2, b3⟩ := hW2 q h1 h2
                  walk_at "u"
                  exact ⟨F', tp', b1, b2, b3.keeps fun b o e => (C.drop (List.sublist_append_left _ _)).g_le e⟩
                · obtain ⟨n₁, rfl, h⟩ := h
                  exact ⟨n₁, _, rfl, h⟩
              · simp only [List.nil_append, List.append_nil]
                rw [← List.append_assoc]
                exact List.Perm.append_right fz List.perm_append_comm |>.trans (by rw [List.append_assoc])
            case post =>
              refine hide2 fun _ u9 => ?_
              rintro v n ⟨n₁, n₂, rfl, add', k'', rfl, e1, e2⟩
              refine u9 _ _ ?_; clear u9
              rw [show dvs ++ (Value.str "" te :: add) ++ add' = dvs ++ (Value.str "" te :: (add ++ add')) by simp]
              refine ⟨_, [(da, listOf (dvs ++ (Value.str "" te :: (add ++ add'))).toArray k'')] ++ fz, List.Perm.refl _, List.Sublist.append_left (List.sublist_append_right n₂ fz) _, ?_⟩
              cases hwm : walk W m one (nmF nl') (ab ++ [j + 1]) with
              | none => rw [hwm] at e2; exact ⟨false, e2, add', k'', rfl, e1, rfl⟩
              | some o => rw [hwm] at e2; exact ⟨true, e2.1, add', k'', rfl, e1, rfl, e2.2⟩
            walk_at "h"
            obtain ⟨add', k'', rfl, e1, e2⟩ := hb'
            walk_at "u"
            have hsn := walks_snoc (f := fun c => walk W m c (nmF nl') (ab ++ [j + 1])) hi'
            rw [h2, ← hone] at hsn
            dsimp only at hsn
            cases hwm : walk W m one (nmF nl') (ab ++ [j + 1]) with
            | none =>
              rw [hwm] at e2 hsn
              have : b' = true := by simpa using e2
              subst this
              rw [if_pos rfl]
              refine ex_ret ev_bool fun v s hv C => ⟨_, _, C.drop (List.sublist_append_left _ _), Value.str "" te :: (add ++ add'), k'', rfl, ?_, ?_⟩
              · simp; omega
              · have := walks_none (f := fun c => walk W m c (nmF nl') (ab ++ [j + 1])) (i := i + 1) (by omega) hsn
                rw [this]; exact hv
            | some o =>
              rw [hwm] at e2 hsn
              have : b' = false := by simpa using e2.1
              subst this
              rw [if_neg (by decide)]
              refine ex_nil fun s C => ⟨_, _, ⟨rfl, add ++ add', k'', out ++ o, rfl, ?_, hsn, h3.app e2.2⟩, C.weak (by walk_at "sub")⟩
              rw [Nat.succ_mul, List.length_append]; omega
          · refine hide2 fun _ u9 => ?_
            rintro l n ⟨rfl, add, k', out, rfl, h1, h2, h3⟩
            refine u9 _ _ ?_; clear u9
            rw [List.size_toArray, hyl] at h1
            rw [List.size_toArray, hyl, List.take_length] at h2
            have hmul : F.wishes.length * cost m ≤ 2 * cost m := Nat.mul_le_mul_right _ hwl2
            refine exx_expr (P := fun n => ∃ tf, n = [(da, listOf (dvs ++ (Value.str "" te :: (add ++ [Value.str "" tf]))).toArray (k' + 1))]) (may := False) (EvX.mono (evx_append (its := (dvs ++ (Value.str "" te :: add)).toArray) (n := k') (D := da) (may := False) (by walk_at "nm") (ev_str (x := "")) (by walk_at "mem") (fun v => .head) (by rw [List.size_toArray]; simp; omega) (by walk_at "mc")) fun v n h => ?_) (fun h => h.elim) fun n hn => ?_
            · walk_at "h"
              obtain ⟨rfl, x, ⟨tf, rfl⟩, rfl⟩ := h
              walk_at "u"
              exact ⟨rfl, tf, by simp [List.push_toArray]⟩
            obtain ⟨tf, rfl⟩ := hn
            refine ex_ret ev_bool fun v s hv C => ⟨_, _, C, Value.str "" te :: (add ++ [Value.str "" tf]), k' + 1, rfl, ?_, ?_⟩
            · simp; omega
            · rw [walks_rows h2]
              exact ⟨hv, ⟨te, rfl⟩, h3.snoc ⟨tf, rfl⟩⟩
theorem law_walk {w : World} {wa : Addr} {count : Nat} {W : WorldD} (hWw : ∀ k F, W k = some F → F.wishes.length ≤ 2) : ∀ n, LwOk w wa count W n (n + 3)
  | n => by
    have := law_walk_step (w := w) (wa := wa) (count := count) (n := n) (kd := n + 2) hWw fun m e => by
      subst e
      exact law_walk hWw m
    exact this
structure Loose (g base : Heap) (outer : List Env) (s s' : Shared) : Prop where
  bs : base.StaysIn s'.heap
  bf : s'.heap.FunFrames base outer
  sl : ∀ b o, g.get? b = some o → (∀ vs, o.data ≠ .fields vs) → ∃ sl, s'.heap.get? b = some { o with slots := sl }
  gens : s'.gens = s.gens
  drawn : s'.drawn = s.drawn
  os : s'.os = s.os
theorem exc_matches {w : World} {A : Around} {E : Value → Shared → Prop} {s : Shared} {e : Addr} {oe : Obj} {Q : Bool → Shared → Prop} (X : (KL w.params).In s.heap) (he : s.heap.get? e = some oe) (hc : oe.cls = .ref 59) (h : Q true s) : wpAny (model prg w) A (excMatches (.ref e) (.ref 59)) Q E s := by
  have hC : s.heap.get? 59 = some J13 := X _ _ (k59 _)
  walk_at "h"
  obtain ⟨nm, q, bs, dd, sn, sb, ab, col, k0, k1, k2, k3, k5, e59⟩ := o59_shape
  walk_at "u"
  rw [e59] at hC
  walk_at "h"
  obtain ⟨hp, g, d, tk, os⟩ := s
  walk_at "u"
  walk_at "h"
  obtain ⟨oc, od, odt, osl⟩ := oe
  walk_at "u"
  dsimp only at hc
  subst hc
  have hcB : (Value.ref 59 :: [Value.ref 46, .type "Exception", .type "BaseException", .type "object"]).contains (.type "BaseException") = true := by decide
  have hcC : (Value.ref 59 :: [Value.ref 46, .type "Exception", .type "BaseException", .type "object"]).contains (.ref 59) = true := by decide
  unfold excMatches
  repeat (first | with_reducible refine wpAny_loadPart_at he ?_ | with_reducible refine wpAny_loadPart_at hC ?_ | (with_reducible refine wpAny_isSubtype_exc hC ?_; first | rw [hcB] | rw [hcC]) | wp_step)
  show wpAny _ _ (isSubtype (.type "type") (.type "tuple")) _ _ _
  rw [show isSubtype (.type "type") (.type "tuple") = pure false from by rw [isSubtype_type]; kernel_rfl]
  repeat (first | with_reducible refine wpAny_loadPart_at he ?_ | with_reducible refine wpAny_loadPart_at hC ?_ | (with_reducible refine wpAny_isSubtype_exc hC ?_; first | rw [hcB] | rw [hcC]) | wp_step)
  exact h
section
variable {w : World} {D : PD} {V : PV} {W : WorldD} {hl : Nat → Addr} {nm : Str → Option Nat} {ab : List Nat} {n : Nat}
theorem law_is_let {r : Addr} {ops : List (Option Str)} (hc : ∀ c, some c ∈ ops → c.length ≤ 100) (hsz : V.ms.length + oc n ops + cost n ≤ 90000 ∧ V.cs.length + oc n ops + cost n ≤ 90000) :
    ∀ A outer base g s (Q E : Value → Shared → Prop), Pre w A outer base g (core w.params D V) s → SB w base → Room A (16 + 5 * n) → PaintF w g W D V hl nm ab n (OpnF w hl W D.op) → RowsAt g r ops →
      (∀ n' s', PostM w.params D V (walks (paints fun c => walk W n c nm ab) ops) .none n' → Back g n' s s' → Q (.bool true) s') → (walks (paints fun c => walk W n c nm ab) ops = none → ∀ s', Loose g base outer s s' → Q (.bool false) s') →
      wpAny (model prg w) A (call (.ref F_law_is_let.f) [.ref D.pa, .ref r]) Q E s := fun A outer base g s Q E Pr hB room hf hrow hQ hbad => by
  refine wpAny_call (enter (p := F_law_is_let.p) (nm := F_law_is_let.nm) (qn := F_law_is_let.qn) (binds := [(Str.ofString "painter", .ref D.pa), (Str.ofString "rows", .ref r)]) Pr (by have := room.1; omega) (by have := room.2; omega) (G_law_is_let.k _) (G_law_is_let.c _) (BindsTo.of_eq (by kernel_rfl)) (by kernel_rfl) G_law_is_let.nc G_law_is_let.co G_law_is_let.ge G_law_is_let.kd (of_decide_eq_true (by kernel_rfl)) fun L s₁ C₁ => ?_)
  have rm : Room (A.deeper (F_law_is_let.env L)) (15 + 5 * n) := by
    refine ⟨?_, ?_⟩
    · have := room.1; show A.depth + 1 + 2 * (15 + 5 * n) < 590; omega
    · have := room.2; show A.units + 3 + 20 * (15 + 5 * n) < 8990; omega
  change Cx ⟨w, A.deeper (F_law_is_let.env L), s, g, L, outer, base, F_law_is_let.env L⟩ _ _ _ at C₁
  refine (?_ : Ex ⟨w, A.deeper (F_law_is_let.env L), s, g, L, outer, base, F_law_is_let.env L⟩ _ _ (fB F_law_is_let.p) _ _) s₁ C₁
  conv => { arg 4; whnf }
  intro s₂ C₂
  refine wpAny_execs_cons (wpAny_Try_except ?_)
  refine (exx_expr (P := fun n' => PostM w.params D V (walks (paints fun c => walk W n c nm ab) ops) .none n') (may := walks (paints fun c => walk W n c nm ab) ops = none) (EvX.mono (evx_call (f := 0) G_paint_all (ev_glob (g_paint_all _)) (evs_cons (by walk_at "nm" : Ev _ _ _ _ (· = Value.ref D.pa)) (evs_cons (by walk_at "nm" : Ev _ _ _ _ (· = Value.ref r)) evs_nil))
      (P := PostM w.params D V (walks (paints fun c => walk W n c nm ab) ops)) fun vs hv => ?_) fun v n h => ?_) (fun m e s' F => ?_) (fun n' hn' => ?_) : Ex ⟨w, A.deeper (F_law_is_let.env L), s, g, L, outer, base, F_law_is_let.env L⟩ _ _ _ _ _) s₂ C₂
  · walk_at "h"
    obtain ⟨_, rfl, _, ⟨_, rfl, _, rfl, rfl⟩, rfl⟩ := hv
    walk_at "u"
    have z := Ct.use1 (Γ := ⟨w, A.deeper (F_law_is_let.env L), s, g, L, outer, base, F_law_is_let.env L⟩) (l := [(Str.ofString "painter", .ref D.pa), (Str.ofString "rows", .ref r)]) (fz := [])
      (paint_all (kd := 11 + 5 * n) (r := r) (ops := ops) (V := V) (fun h h' u k => u.keeps k) (do_object n nm ab) hc (by omega) hsz) (rm.le (by omega)) ⟨hf, hrow⟩ fun h h' u k => ⟨u.1.keeps (fun h h' u k => u.keeps k) k, u.2.keeps k⟩
    exact CallX.mono z fun v n h => by obtain ⟨n₁, rfl, h⟩ := h; rw [List.append_nil]; exact h
  · obtain ⟨rfl, h⟩ := h
    exact ⟨rfl, rfl, h⟩
  · refine F.note C₁.ok (fun s3 a ha hn F2 => ?_)
    subst ha
    refine flight_set (fr := none) hn F2.bf F2.bs fun h' hL => ?_
    walk_at "h"
    obtain ⟨k1, k2, ⟨oe, vs, T, oT, ts, he, hcls, hd, h1, hnT, hTe, hT, hdT, h3⟩, k4⟩ := hL
    walk_at "u"
    have hS : SB w h' := fun b o e => k1 b o (hB b o e)
    refine wpAny_handleBy_cons (codeAny_handlers_test ?_) (by intro q; cases q)
    refine Name_function_global (by kernel_rfl) (by kernel_rfl) (loadGlobal_global hS.gl (mg_of (kl_in hS) hS.gl (g_PaintFault _)) ?_) (by kernel_rfl)
    refine exc_matches (kl_in hS) he hcls ?_
    refine codeAny_handlers_suite ?_
    refine wpAny_setFlight_none he hd h1 hT hdT (Array.getElem?_eq_some_iff.mp h3).1 ?_
    refine wpAny_execs_cons (wpAny_Return_some (wpAny_Constant_bool ?_))
    have other : ∀ b, b ≠ T → (h'.update T (Obj.mapFields (·.setIfInBounds 3 Value.none))).get? b = h'.get? b := fun b hb => Heap.get?_update_other _ _ (Ne.symm hb)
    have noRecord : ∀ b o, h'.get? b = some o → (∀ vs, o.data ≠ .fields vs) → b ≠ T := fun b o hb hnf q => by
      rw [q, hT] at hb; injection hb with hb; subst hb; exact hnf ts hdT
    refine hbad m _ ⟨fun b o e => (other b fun q => by rw [q, hnT] at e; cases e).trans (k1 b o e), ?_, fun b o hb hnf => ?_, F2.gens, F2.drawn, F2.os⟩
    · obtain ⟨_, _, k2'⟩ := k2
      exact k2'.of_keeps fun b o hb hnf => ⟨o, (other b (noRecord b o hb hnf)).trans hb, rfl⟩
    · obtain ⟨sl, e1⟩ := F2.sl b o hb hnf
      have e2 := k4 b _ e1 hnf
      exact ⟨sl, (other b (noRecord b _ e2 hnf)).trans e2⟩
  · intro s3 C3
    refine wpAny_execs_nil (wpAny_execs_nil ?_)
    refine (ex_ret ev_bool fun v s4 hv C4 => ?_ : Ex ⟨w, A.deeper (F_law_is_let.env L), s, g, L, outer, base, F_law_is_let.env L⟩ _ _ _ _ _) s3 C3
    subst hv
    exact hQ n' s4 hn' C4.back_of
end
section
variable {Γ : G} {l l' : List (Str × Value)} {news news' fz : List (Addr × Obj)} {s : Shared} {rest : List Stmt} {Q : Flow → Shared → Prop} {E : Value → Shared → Prop}
def MakesY (Γ : G) (l : List (Str × Value)) (news : List (Addr × Obj)) (iter : Expr) (P : Nat → Value → Prop) (N : Nat) (R : List (Addr × Obj) → List (Addr × Obj) → Prop) : Prop :=
  ∀ s (Q : Value → Shared → Prop) (E : Value → Shared → Prop), Cx Γ l news s → (∀ own it o fp St n' s', R own n' → N ≤ 1000 → WIter Γ it own N P fp St → St 0 s'.heap → Cx Γ l (n' ++ [(it, o)]) s' → Q (.ref it) s') →
    wpAny (model prg Γ.w) Γ.A (eval iter Γ.env) (fun x s₁ => wpAny (model prg Γ.w) Γ.A (pyIter x) Q E s₁) E s
theorem makesY_list {iter : Expr} {items : List Value} (he : EvX Γ l news iter (fun v n => ∃ a, v = .ref a ∧ n = (a, listOf items.toArray 0) :: news) False) (hN : items.length ≤ 1000) : MakesY Γ l news iter (fun i v => items[i]? = some v) items.length (fun own n => ∃ a, own = [(a, listOf items.toArray 0)] ∧ n = (a, listOf items.toArray 0) :: news) := fun s Q E C k =>
  he s _ E C (fun v n s₁ hv C₁ => by
    obtain ⟨D, rfl, rfl⟩ := hv
    have hl : s₁.heap.IsList D items.toArray := ⟨_, C₁.obj (.head _), rfl, _, rfl⟩
    have hlt : D < s₁.heap.objs.size := by obtain ⟨_, e, _⟩ := hl; exact Heap.lt_size e
    have W := Walks.list (prog := prg) (w := Γ.w) (A := Γ.A) C₁.ok.hh s₁.heap.objs.size D (Nat.ne_of_lt hlt) items.toArray
    rw [List.size_toArray] at W
    have W' : Walks prg Γ.w Γ.A s₁.heap.objs.size [s₁.heap.objs.size, D] [s₁.heap.objs.size] items.length (fun i v => items[i]? = some v) (fun i h => h.IsListIter s₁.heap.objs.size D i ∧ h.IsList D items.toArray) := by simpa using W
    refine wpAny_pyIter_list hl (k [(D, listOf items.toArray 0)] _ _ [s₁.heap.objs.size, D] _ _ _ ⟨D, rfl, rfl⟩ hN ⟨W', fun i h st => by obtain ⟨o, e, _⟩ := st.1; exact ⟨o, e⟩, fun b hb => ?_⟩ ⟨⟨_, Heap.get?_push_size _ rfl, rfl, rfl⟩, hl.push _⟩ (C₁.allocE _ rfl))
    rcases List.mem_cons.mp hb with rfl | hb
    · exact .inl rfl
    · rw [List.mem_singleton.mp hb]; exact .inr (.inr (.head _))) (fun h => h.elim)
theorem evx_compY {elt iter : Expr} {x : Str} {px : Pos} {scope : Scope} {cl : List (Str × Addr)} {pos : Pos} {N : Nat} {P : Nat → Value → Prop} {R : List (Addr × Obj) → List (Addr × Obj) → Prop} {may : Prop} (J : List (Addr × Obj) → Nat → List Value → List (Addr × Obj) → Prop)
    (hm : MakesY Γ l news iter P N R) (h0 : ∀ own n, R own n → J own 0 [] n) (hO : ∀ own i ys n, J own i ys n → ∀ p ∈ own, p ∈ n) (hclos : closureFor scope Γ.env = pure cl)
    (hcell : (scope.names.all fun y => y.2 != .cell) = true) (hkind : scope.kind = .function) (hnames : ∀ y ∈ scope.names, y.2 = .local → scope.names.lookup y.1 = some .local) (hx : scope.names.lookup x = some .local) (hd : (x == ("__debug__" : Str)) = false)
    (turn : ∀ own i v ys n t C, i < N → P i v → J own i ys n → (∀ n' p, Ev (Γ.comp scope cl C) l (n' ++ t) (.Name x p) (· = v)) → EvX (Γ.comp scope cl C) l (n ++ t) elt (fun u n' => ∃ n₁, n' = n₁ ++ t ∧ J own (i + 1) (ys ++ [u]) n₁) False)
    (hs : ∀ v, foldedSetIterable iter Γ.env v = pure v := by intro _; rfl) :
    EvX Γ l news (.ListComp elt [⟨.Name x px, iter, [], 0⟩] scope pos) (fun v n => ∃ own D ys n₁, v = .ref D ∧ n = n₁ ++ [(D, lstO ys)] ∧ J own N ys n₁ ∧ ys.length = N) may := fun s Q E C k hE => by
  rw [eval_ListComp]
  refine wpAny_comprehension_free (use := none) rfl hs hclos hkind hnames (hm s _ _ C fun own it o fp St n₀ s₁ hR hN I st C₁ => ?_)
  refine comp_block (J own) I st C₁ (h0 own _ hR) (hO own) (Nat.le_trans hN (by decide)) hcell hkind hx hd (turn own) fun D Cc oC ys n m s' hJ hns hyl C' => ⟨m, hns, fun h' hs' => ?_⟩
  have C'' : Cx Γ l (n ++ [(D, lstO ys)]) { s' with heap := h' } := by
    have z := Cx.lose (pre := n ++ [(D, lstO ys)]) (post := []) (d := Cc) (o := oC) (n := s'.toks) (s := s') (by simpa using C') (fun b ob hb => hs'.extBut b ob (by simpa using hb))
    simpa using z
  exact k _ _ _ ⟨own, D, ys, n, rfl, rfl, hJ, hyl⟩ C''
theorem int_int {fe e : Expr} {pos : Pos} {i : Int} (hf : Ev Γ l news fe (· = .type "int")) (he : Ev Γ l news e (IsI i)) (hst : starEach (e :: []) Γ.env = (false, eval e Γ.env) :: starEach [] Γ.env := by rfl)
    (hc' : eval (.Call fe [e] [] pos) Γ.env = (do callWith pos (← eval fe Γ.env) [] (backTo pos (starEach [e] Γ.env)) (backToKw pos (keywordEach [] Γ.env))) := by rfl) : Ev Γ l news (.Call fe [e] [] pos) (IsI i) := fun s Q E C k =>
  Call_ (hf s _ E C fun v s' hv C' => by
    subst hv
    refine PyProof.Rows.callWith_type1 (spliced_more (he s' _ E C' fun v s₂ hv C₂ => spliced_none ?_) hst) hst (by rfl)
    obtain ⟨u, rfl⟩ := hv
    exact call_int_int (k _ _ ⟨_, rfl⟩ C₂)) hc'
theorem abs_int {fe e : Expr} {pos : Pos} {i : Int} (hf : Ev Γ l news fe (· = .builtin "abs")) (he : Ev Γ l news e (IsI i)) (hst : starEach (e :: []) Γ.env = (false, eval e Γ.env) :: starEach [] Γ.env := by rfl)
    (hc' : eval (.Call fe [e] [] pos) Γ.env = (do callWith pos (← eval fe Γ.env) [] (backTo pos (starEach [e] Γ.env)) (backToKw pos (keywordEach [] Γ.env))) := by rfl) : Ev Γ l news (.Call fe [e] [] pos) (IsI (if i < 0 then -i else i)) :=
  ev_b1 hf he (fun v hv s Q E C k => by obtain ⟨t, rfl⟩ := hv; exact PyProof.Rows.call_abs_int fun u tk => k _ _ ⟨_, rfl⟩ (C.tok _)) hst hc'
theorem ev_pow {a b : Expr} {pos : Pos} {x : Int} {n : Nat} (ha : Ev Γ l news a (IsI x)) (hb : Ev Γ l news b (IsI (n : Int))) (hx : x.natAbs < 2 ^ 64) (hn : n ≤ 1000) : Ev Γ l news (.BinOp a .Pow b pos) (IsI (x ^ n)) := ev_arith ha hb fun t t' s Q E h => PyProof.Rows.pow_int_small (by omega) (by omega) hx (by rw [Int.toNat_natCast]; exact h)
end
section
variable {Γ : G} {l l' : List (Str × Value)} {news news' fz : List (Addr × Obj)} {s : Shared} {rest : List Stmt} {Q : Flow → Shared → Prop} {E : Value → Shared → Prop}
theorem evx_orL {e₁ e₂ : Expr} {pos : Pos} {P1 : Addr → List Value → List (Addr × Obj) → Prop} {P : Value → List (Addr × Obj) → Prop} {may : Prop} (h : EvX Γ l news e₁ (fun v n => ∃ D ys, v = .ref D ∧ P1 D ys n) may) (hl : ∀ D ys n, P1 D ys n → ys.length ≤ 1000 ∧ ∀ s, Cx Γ l n s → s.heap.IsList D ys.toArray)
    (h1 : ∀ D ys n, P1 D ys n → ys ≠ [] → P (.ref D) n) (h2 : ∀ D n, P1 D [] n → EvX Γ l n e₂ P may) : EvX Γ l news (.BoolOp .Or [e₁, e₂] pos) P may := fun s Q E C k hE =>
  BoolOp_or (h s _ E C (fun v n s₁ hv C₁ => by
    walk_at "h"
    obtain ⟨D, ys, rfl, hP⟩ := hv
    walk_at "u"
    obtain ⟨hz, hls⟩ := hl D ys n hP
    refine wpAny_truthy_list (hls s₁ C₁) (by rw [List.size_toArray]; omega) ?_
    cases ys with
    | nil => exact BoolOp_one (h2 D n hP _ Q E (C₁.tok _) k hE)
    | cons y ys => exact k _ n _ (h1 D _ n hP (by simp)) (C₁.tok _)) hE)
end
theorem AllR.take {α β : Type} {R : α → β → Prop} : ∀ {as : List α} {bs : List β} (n : Nat), AllR R as bs → AllR R (as.take n) (bs.take n)
  | [], [], n, _ => by simp [AllR]
  | _ :: _, _ :: _, 0, _ => trivial
  | _ :: _, _ :: _, n + 1, h => ⟨h.1, AllR.take n h.2⟩
theorem law_source {w : World} {sa : Addr} {vs : List Value} {cs : List Int} (hv : AllR (fun v c => IsI c v) vs cs) (hz : cs.length ≤ 63) :
    Ct w F_law_source.f [.ref sa] (fun g => g.IsList sa vs.toArray) [] (fun v n => ∃ so ca oS objs, v = .ref so ∧ n = (so, oS) :: objs ∧ SrcO ca 0 oS ∧ ∀ g, Std objs g → SrcF g ca) False 2 := by
  refine ct_def (F := F_law_source) (binds := [(Str.ofString "script", .ref sa)]) (k := 1) G_law_source (by kernel_rfl) (by kernel_rfl) (by kernel_rfl) fun A s₀ g L outer base hf rm => ?_
  have hvl := hv.length
  have htk : AllR (fun v c => IsI c v) (vs.take 60) (cs.take 60) := hv.take 60
  have htl := htk.length
  have htz : (vs.take 60).length ≤ 60 := by rw [List.length_take]; omega
  conv => { arg 4; whnf }
  refine exx_assign (P := fun v n => ∃ ca o vs' cs', v = .ref ca ∧ (ca, o) ∈ n ∧ LObj o vs'.toArray ∧ AllR (fun v c => IsI c v) vs' cs' ∧ cs' ≠ [] ∧ cs'.length ≤ 60) (may := False)
    (evx_orL (P1 := fun D ys n => ∃ n₁, n = n₁ ++ [(D, lstO ys)] ∧ AllR (fun v c => IsI c v) ys (cs.take 60)) (EvX.mono (evx_compY (P := fun i v => (vs.take 60)[i]? = some v) (N := (vs.take 60).length) (R := fun own n => ∃ a, own = [(a, listOf (vs.take 60).toArray 0)] ∧ n = (a, listOf (vs.take 60).toArray 0) :: []) (fun own i ys n => own = n ∧ AllR (fun v c => IsI c v) ys ((cs.take 60).take i))
        (makesY_list (EvX.mono (evx_upto (items := vs.toArray) (b := 60) (by walk_at "nm" : Ev _ _ _ _ (· = Value.ref sa)) (ev_int (x := 60)) (fun s C => isList_keeps hf fun b o => C.keep) (by simp; omega)) fun v n h => by simpa using h) (by omega)) ?h0 (fun own i ys n h p hp => h.1 ▸ hp) (by rfl) (by kernel_rfl) (by kernel_rfl) (names_of (by kernel_rfl)) (by kernel_rfl) (by kernel_rfl) ?turn) ?post) ?isl ?one ?six)
    (fun h => h.elim) (by kernel_rfl) (by walk_at "sub") (by kernel_rfl) fun v n hv => ?_
  case h0 => rintro own n ⟨a, rfl, rfl⟩; exact ⟨rfl, trivial⟩
  case turn =>
    rintro own i v ys n fz C hi hv' ⟨rfl, h1⟩ hx
    have hi' : i < (cs.take 60).length := by omega
    have hvc : IsI (cs.take 60)[i] v := htk.get i v _ hv' (by rw [List.getElem?_eq_getElem hi'])
    refine EvX.mono (evx_of (int_int (ev_bltn (b_int _) (b_int' _)) (Run.mono (hx own _) fun u hu => hu ▸ hvc))) fun u n' h => ?_
    obtain ⟨hu, rfl⟩ := h
    exact ⟨_, rfl, rfl, by rw [List.take_succ_eq_append_getElem hi']; exact h1.snoc hu⟩
  case post =>
    refine hide2 fun _ u9 => ?_
    rintro v n ⟨own, D, ys, n₁, rfl, rfl, ⟨-, h1⟩, h2⟩
    refine u9 _ _ ?_; clear u9
    rw [htl, List.take_length] at h1
    exact ⟨D, ys, rfl, n₁, rfl, h1⟩
  case isl =>
    rintro D ys n ⟨n₁, rfl, h1⟩
    have := h1.length
    exact ⟨by omega, fun s C => ⟨_, C.obj (List.mem_append_right _ (.head _)), rfl, _, rfl⟩⟩
  case one =>
    rintro D ys n ⟨n₁, rfl, h1⟩ hne
    refine ⟨D, _, ys, cs.take 60, rfl, List.mem_append_right _ (.head _), LObj.of, h1, fun e => hne ?_, by omega⟩
    have := h1.length
    rw [e] at this
    exact List.length_eq_zero_iff.mp this
  case six =>
    rintro D n ⟨n₁, rfl, h1⟩
    refine EvX.mono (evn_list (evsn_cons (evn_of (ev_int (x := 6))) fun _ _ _ => evsn_nil) hL1) (hide2 fun _ u9 v n h => ?_)
    obtain ⟨n₂, rfl, a, _, _, rfl, ⟨_, _, _, _, ⟨h6, rfl⟩, ⟨rfl, rfl⟩, rfl, rfl⟩, rfl⟩ := h
    refine u9 _ _ ?_; clear u9
    exact ⟨a, _, [_], [6], rfl, .head _, LObj.of, ⟨h6, trivial⟩, by simp, by simp⟩
  walk_at "h"
  obtain ⟨ca, o, vs', cs', rfl, hm, hO, hvc, hne, hz'⟩ := hv
  walk_at "u"
  obtain ⟨c0, ct, rfl⟩ := List.exists_cons_of_ne_nil hne
  have hl' := hvc.length
  obtain ⟨v0, vt, rfl⟩ : ∃ v0 vt, vs' = v0 :: vt := by cases vs' with | nil => simp at hl' | cons a b => exact ⟨a, b, rfl⟩
  have hc0 : IsI c0 v0 := hvc.1
  have hA : ∀ {l : List (Str × Value)} {p1 p2 p3 p4 p5 : Pos} {i : Nat}, (Str.ofString "cells", Value.ref ca) ∈ l → Ev ⟨w, A, s₀, g, L, outer, base, F_law_source.env L⟩ l n (.Call (.Name "abs" p1) [.Subscript (.Name "cells" p2) (.Constant (.int 0) i p3) p4] [] p5) (IsI (if c0 < 0 then -c0 else c0)) := fun hm' =>
    abs_int (ev_bltn (b_abs _) (b_abs' _)) (Run.mono (ev_sub (ev_name (v := .ref ca) hm') (ev_int (x := 0)) (sub_list (k := 0) (vs := v0 :: vt) (fun s C => hO.list (C.obj hm)) rfl (by rw [hl']; omega))) fun v hv => hv ▸ hc0)
  refine ex_assign (P := IsI 0) ev_int (by kernel_rfl) (by walk_at "sub") (by kernel_rfl) fun v hv => ?_
  obtain ⟨t0, rfl⟩ := hv
  have fin : ∀ {rst tr} {p1 p2 p3 p4 p5 : Pos} {i : Nat}, Ex ⟨w, A, s₀, g, L, outer, base, F_law_source.env L⟩ [(Str.ofString "rest", .int rst tr), (Str.ofString "cells", .ref ca), (Str.ofString "script", .ref sa)] n [.Return (some (.List [.Name "cells" p1, .Name "rest" p2, .Constant (.int 0) i p3] p4)) p5] (Ends ⟨w, A, s₀, g, L, outer, base, F_law_source.env L⟩ fun v n => ∃ so ca oS objs, v = .ref so ∧ n = (so, oS) :: objs ∧ SrcO ca 0 oS ∧ ∀ g, Std objs g → SrcF g ca) (fun e s => False ∧ Flies ⟨w, A, s₀, g, L, outer, base, F_law_source.env L⟩ e s) := fun {rst tr p1 p2 p3 p4 p5 i} => by
    refine exx_ret (may := False) (evn_list (evsn_cons (evn_of (by walk_at "nm" : Ev _ _ _ _ (· = Value.ref ca))) fun _ _ _ => evsn_cons (evn_of (by walk_at "nm" : Ev _ _ _ _ (· = Value.int rst tr))) fun _ _ _ => evsn_cons (evn_of (ev_int (x := 0))) fun _ _ _ => evsn_nil) (by rintro _ _ ⟨_, _, _, _, -, ⟨_, _, _, _, -, ⟨_, _, _, _, -, ⟨rfl, rfl⟩, rfl, rfl⟩, rfl, rfl⟩, rfl, rfl⟩; simp)) (fun h => h.elim) fun v n' s hv C => ?_
    walk_at "h"
    obtain ⟨n₁, rfl, so, _, _, rfl, ⟨_, _, _, _, ⟨rfl, rfl⟩, ⟨_, _, _, _, ⟨rfl, rfl⟩, ⟨_, _, _, _, ⟨⟨tz, rfl⟩, rfl⟩, ⟨rfl, rfl⟩, rfl, rfl⟩, rfl, rfl⟩, rfl, rfl⟩, rfl⟩ := hv
    walk_at "u"
    exact ⟨_, _, C, so, ca, _, n, rfl, rfl, ⟨rst, tr, tz, LObj.of⟩, fun g' hg => ⟨_, c0 :: ct, hO.list (hg _ hm), ⟨hl', fun i v c h1 h2 => hvc.get i v c h1 h2⟩, by simp, by omega⟩⟩
  by_cases hbig : (if c0 < 0 then -c0 else c0) ≥ (10 : Int) ^ 12
  · refine ex_if_t (ist_cmp (hA (by walk_at "mem")) (ev_pow (n := 12) (ev_int (x := 10)) (ev_int (x := 12)) (by decide) (by decide)) (cmp_int (by show some (decide _) = some true; rw [decide_eq_true hbig]))) ?_
    refine ex_assign (l' := [(Str.ofString "cells", .ref ca), (Str.ofString "script", .ref sa)]) (P := fun v => ∃ i, IsI i v) (Run.mono (ev_mod (ev_sub' (hA (by walk_at "mem")) (ev_pow (n := 12) (ev_int (x := 10)) (ev_int (x := 12)) (by decide) (by decide))) (ev_pow (n := 180) (ev_int (x := 10)) (ev_int (x := 180)) (by decide) (by decide)) (Int.pow_ne_zero (by decide))) fun v hv => ⟨_, hv⟩) (by kernel_rfl) (by walk_at "sub") (by kernel_rfl) fun v hv => ?_
    obtain ⟨i, tr, rfl⟩ := hv
    exact fin
  · refine ex_if_f (ist_cmp (hA (by walk_at "mem")) (ev_pow (n := 12) (ev_int (x := 10)) (ev_int (x := 12)) (by decide) (by decide)) (cmp_int (by show some (decide _) = some false; rw [decide_eq_false hbig]))) ?_
    exact fin
section
variable {Γ : G} {l l' : List (Str × Value)} {news news' fz : List (Addr × Obj)} {s : Shared} {rest : List Stmt} {Q : Flow → Shared → Prop} {E Er : Value → Shared → Prop}
theorem ex_while_f {t : Expr} {b : List Stmt} {pos : Pos} (ht : IsT Γ l news t false) (k : Ex Γ l news rest Q E) : Ex Γ l news (.While t b [] pos :: rest) Q E := fun s C =>
  wpAny_execs_cons (wpAny_While (codeAny_whileLoop (fun _ s' => Cx Γ l news s') (fun n s' C' => ht s' _ _ C' fun c s'' hc C'' => by subst hc; rw [if_neg (by decide)]; exact wpAny_execs_nil (k s'' C'')) 0 C))
theorem ex_init1P {o e : Expr} {ap pos : Pos} {x C d : Addr} {es : List DictEntry} {n : Nat} {name : Str} {P : Value → Prop} (he : Ev Γ l ((x, instObj C d) :: (d, dictOf es n) :: fz) e P) (ho : Ev Γ l ((x, instObj C d) :: (d, dictOf es n) :: fz) o (· = .ref x)) (ok : setOk (KL Γ.w.params) C name = true) (hl : (getL name es).isSome = true)
    (e' : ∀ v t, (putL name (PyData.keyHash Γ.w.params name) (.str name t) v es, putN name es n) = (es ++ [⟨PyData.keyHash Γ.w.params name, .str name t, v⟩], n + 1)) (hz : es.length ≤ 100)
    (k : ∀ v t, P v → Ex Γ l ((x, instObj C d) :: (d, dictOf (es ++ [⟨PyData.keyHash Γ.w.params name, .str name t, v⟩]) (n + 1)) :: fz) rest Q Er) (hs : swapsWith e (some (.Attribute o name ap)) pos.line Γ.env = pure false := by rfl) :
    Ex Γ l ((x, instObj C d) :: (d, dictOf es n) :: fz) (.Assign [.Attribute o name ap] e pos :: rest) Q Er := fun s C₀ =>
  wpAny_execs_cons (plainObj_wpAny_Assign_Attribute (he s _ _ C₀ fun u s₁ hu C₁ => ho s₁ _ _ C₁ fun ov s₂ hov C₂ => by
    subst hov
    exact st_set (nw := fun t => (x, instObj C d) :: (d, dictOf (es ++ [⟨PyData.keyHash Γ.w.params name, .str name t, u⟩]) (n + 1)) :: fz) ok (C₂.obj (.head _)) hl (e' u) (fun t => .tail .head) (fun t => by simp; omega) C₂ fun t s₃ C₃ => k u t hu s₃ C₃) hs)
theorem ex_init1N {o e : Expr} {ap pos : Pos} {x C d : Addr} {es : List DictEntry} {n : Nat} {name : Str} {P : Value → List (Addr × Obj) → Prop} (he : EvN Γ l ((x, instObj C d) :: (d, dictOf es n) :: fz) e P) (ho : ∀ n', Ev Γ l (n' ++ ((x, instObj C d) :: (d, dictOf es n) :: fz)) o (· = .ref x)) (ok : setOk (KL Γ.w.params) C name = true) (hl : (getL name es).isSome = true)
    (e' : ∀ v t, (putL name (PyData.keyHash Γ.w.params name) (.str name t) v es, putN name es n) = (es ++ [⟨PyData.keyHash Γ.w.params name, .str name t, v⟩], n + 1)) (hz : es.length ≤ 100)
    (k : ∀ v t n₁, P v n₁ → Ex Γ l ((x, instObj C d) :: (d, dictOf (es ++ [⟨PyData.keyHash Γ.w.params name, .str name t, v⟩]) (n + 1)) :: (fz ++ n₁)) rest Q Er) (hs : swapsWith e (some (.Attribute o name ap)) pos.line Γ.env = pure false := by rfl) :
    Ex Γ l ((x, instObj C d) :: (d, dictOf es n) :: fz) (.Assign [.Attribute o name ap] e pos :: rest) Q Er := fun s C₀ =>
  wpAny_execs_cons (plainObj_wpAny_Assign_Attribute (he s _ _ C₀ (fun u n s₁ hu C₁ => by
    obtain ⟨n₁, rfl, hP⟩ := hu
    refine ho n₁ s₁ _ _ C₁ fun ov s₂ hov C₂ => ?_
    subst hov
    have C₃ : Cx Γ l ((x, instObj C d) :: (d, dictOf es _) :: (fz ++ n₁)) s₂ := C₂.perm List.perm_append_comm
    exact st_set (nw := fun t => (x, instObj C d) :: (d, dictOf (es ++ [⟨PyData.keyHash Γ.w.params name, .str name t, u⟩]) (_ + 1)) :: (fz ++ n₁)) ok (C₃.obj (.head _)) hl (e' u) (fun t => .tail .head) (fun t => by simp; omega) C₃ fun t s₄ C₄ => k u t n₁ hP s₄ C₄) (fun h => h.elim)) hs)
theorem isi_int {i : Int} {t : Tok} {c : Value} {b : Bool} (e : kitOne (KL Γ.w.params) (.type "int") c = some b) : Run Γ l news (call (.builtin "isinstance") [.int i t, c]) (· = .bool b) := isi_run kitx_int (fun _ _ => trivial) e (by intro q; cases q)
end
def RefV (v : Value) : Prop := ∃ a, v = .ref a
theorem RefV.in {v : Value} (h : RefV v) : handedIn v = true := by obtain ⟨a, rfl⟩ := h; rfl
theorem mk_Decimal (P : Params) : makeOk (KL P) 155 F_Decimal_init.f = true := by kernel_rfl
theorem kp_Decimal (P : Params) : keepIn (KL P) (.ref 155) = true := by kernel_rfl
theorem so_Decimal (P : Params) : setOk (KL P) 155 "top" = true ∧ setOk (KL P) 155 "places" = true := ⟨by kernel_rfl, by kernel_rfl⟩
theorem Decimal_init {w : World} {x dx : Addr} {v0 : Value} {t : Tok} : CtC w F_Decimal_init.f [.ref x, v0, .int 0 t] (fun _ => True) [(x, instObj 155 dx), (dx, emptyDict)] (fun v n => v = .none ∧ True) False 1 := by
  refine ctc_def (F := F_Decimal_init) (binds := [(Str.ofString "self", .ref x), (Str.ofString "top", v0), (Str.ofString "places", .int 0 t)]) (k := 0) G_Decimal_init (by kernel_rfl) (by kernel_rfl) (by kernel_rfl) fun A s₀ g L outer base hf rm => ?_
  conv => { arg 4; whnf }
  obtain ⟨o1, o2⟩ := so_Decimal w.params
  refine ex_while_f (ist_and_f (ist_cmp (ev_nameP (P := IsI 0) (by walk_at "mem") ⟨_, rfl⟩) (ev_int (x := 0)) (cmp_int (by rfl)))) ?_
  show Ex _ _ [(x, instObj 155 dx), (dx, dictOf [] 0)] _ _ _
  refine ex_init1 (v := v0) (by walk_at "nm") (by walk_at "nm") o1 (by kernel_rfl) (fun t => by kernel_rfl) (by simp) fun t1 => ?_
  refine ex_init1 (v := .int 0 t) (by walk_at "nm") (by walk_at "nm") o2 (by kernel_rfl) (fun t => by kernel_rfl) (by simp) fun t2 => ?_
  exact ex_nil fun s C => ⟨_, _, C, rfl, trivial⟩
theorem decimal_of {w : World} {i : Int} {t : Tok} : CtP w F_decimal_of.f [.int i t] (fun _ => True) [] RefV 3 := by
  refine ct_def (F := F_decimal_of) (binds := [(Str.ofString "value", .int i t)]) (k := 2) G_decimal_of (by kernel_rfl) (by kernel_rfl) (by kernel_rfl) fun A s₀ g L outer base hf rm => ?_
  conv => { arg 4; whnf }
  refine ex_if_f (ist_bool (ev_isi (ev_bltn (b_isinstance _) (b_isinstance' _)) (by walk_at "nm" : Ev _ _ _ _ (· = Value.int i t)) (ev_glob (g_Decimal _)) (isi_int (by kernel_rfl)))) ?_
  refine ex_if_f (ist_or_f (ist_bool (ev_isi (ev_bltn (b_isinstance _) (b_isinstance' _)) (by walk_at "nm" : Ev _ _ _ _ (· = Value.int i t)) (ev_bltn (x := "bool") (v := .type "bool") (by kernel_rfl) (by kernel_rfl) (by kernel_rfl) (by kernel_rfl)) (isi_int (by kernel_rfl))))
    (ist_or_f (ist_not (b := true) (ist_bool (ev_isi (ev_bltn (b_isinstance _) (b_isinstance' _)) (by walk_at "nm" : Ev _ _ _ _ (· = Value.int i t)) (ev_bltn (b_int _) (b_int' _)) (isi_int (by kernel_rfl)))) (by rfl)) ist_or_nil)) ?_
  refine exx_ret (may := False) (evn_inst (F := F_Decimal_init) (k := 1) (mk_Decimal _) (kp_Decimal _) (ev_glob (g_Decimal _)) (evsn_cons (evn_of (by walk_at "nm" : Ev _ _ _ _ (· = Value.int i t))) fun _ _ _ => evsn_cons (evn_of (ev_int (x := 0))) fun _ _ _ => evsn_nil)
    (Pi := fun _ _ _ _ => True) (by
      intro vs n h92 x dx
      walk_at "h"
      obtain ⟨_, _, _, _, ⟨rfl, rfl⟩, ⟨_, _, _, _, ⟨⟨tz, rfl⟩, rfl⟩, ⟨rfl, rfl⟩, rfl, rfl⟩, rfl, rfl⟩ := h92
      walk_at "u"
      exact Decimal_init) (rm.le (by decide))) (fun h => h.elim) fun v n s hv C => ?_
  walk_at "h"
  obtain ⟨n₁, rfl, _, _, x, dx, _, -, rfl, -, -⟩ := hv
  walk_at "u"
  exact ⟨_, [], C.drop (List.nil_sublist _), rfl, x, rfl⟩
section
variable {Γ : G} {l : List (Str × Value)} {news : List (Addr × Obj)}
theorem ev_decimal {e : Expr} {np pos : Pos} {i : Int} (rm : Room Γ.A 3) (he : Ev Γ l news e (IsI i)) (hx : Γ.env.kindOf "decimal_of" = some .globalImplicit) (hst : starEach (e :: []) Γ.env = (false, eval e Γ.env) :: starEach [] Γ.env := by rfl)
    (hc' : eval (.Call (.Name "decimal_of" np) (e :: []) [] pos) Γ.env = (do callWith pos (← eval (.Name "decimal_of" np) Γ.env) [] (backTo pos (starEach (e :: []) Γ.env)) (backToKw pos (keywordEach [] Γ.env))) := by rfl) : Ev Γ l news (.Call (.Name "decimal_of" np) [e] [] pos) RefV :=
  ev_callP G_decimal_of (ev_glob (g_decimal_of _) hx (by kernel_rfl)) (evs_cons he evs_nil hst) (fun vs hv => by
    walk_at "h"
    obtain ⟨_, ⟨t, rfl⟩, _, rfl, rfl⟩ := hv
    walk_at "u"
    exact CtP.run0 decimal_of rm trivial fun _ _ h _ => h) hst hc'
end
theorem mk_Matrix (P : Params) : makeOk (KL P) 443 F_Matrix_init.f = true := by kernel_rfl
theorem kp_Matrix (P : Params) : keepIn (KL P) (.ref 443) = true := by kernel_rfl
theorem so_Matrix_a (P : Params) : setOk (KL P) 443 "a" = true := by kernel_rfl
theorem so_Matrix_b (P : Params) : setOk (KL P) 443 "b" = true := by kernel_rfl
theorem so_Matrix_c (P : Params) : setOk (KL P) 443 "c" = true := by kernel_rfl
theorem so_Matrix_d (P : Params) : setOk (KL P) 443 "d" = true := by kernel_rfl
theorem so_Matrix_e (P : Params) : setOk (KL P) 443 "e" = true := by kernel_rfl
theorem so_Matrix_f (P : Params) : setOk (KL P) 443 "f" = true := by kernel_rfl
theorem Matrix_init {w : World} {x dx : Addr} {i0 i1 i2 i3 i4 i5 : Int} {t0 t1 t2 t3 t4 t5 : Tok} : CtC w F_Matrix_init.f [.ref x, .int i0 t0, .int i1 t1, .int i2 t2, .int i3 t3, .int i4 t4, .int i5 t5] (fun _ => True) [(x, instObj 443 dx), (dx, emptyDict)] (fun v n => v = .none ∧ True) False 4 := by
  refine ctc_def (F := F_Matrix_init) (binds := [(Str.ofString "self", .ref x), (Str.ofString "a", .int i0 t0), (Str.ofString "b", .int i1 t1), (Str.ofString "c", .int i2 t2), (Str.ofString "d", .int i3 t3), (Str.ofString "e", .int i4 t4), (Str.ofString "f", .int i5 t5)]) (k := 3) G_Matrix_init (by kernel_rfl) (by kernel_rfl) (by kernel_rfl) fun A s₀ g L outer base hf rm => ?_
  conv => { arg 4; whnf }
  show Ex _ _ ((x, instObj 443 dx) :: (dx, dictOf [] 0) :: []) _ _ _
  refine ex_init1P (ev_decimal rm (ev_nameP (P := IsI i0) (by walk_at "mem") ⟨_, rfl⟩) (by kernel_rfl)) (by walk_at "nm") (so_Matrix_a _) (by kernel_rfl) (fun v t => by kernel_rfl) (by simp) fun v0 u0 _ => ?_
  refine ex_init1P (ev_decimal rm (ev_nameP (P := IsI i1) (by walk_at "mem") ⟨_, rfl⟩) (by kernel_rfl)) (by walk_at "nm") (so_Matrix_b _) (by kernel_rfl) (fun v t => by kernel_rfl) (by simp) fun v1 u1 _ => ?_
  refine ex_init1P (ev_decimal rm (ev_nameP (P := IsI i2) (by walk_at "mem") ⟨_, rfl⟩) (by kernel_rfl)) (by walk_at "nm") (so_Matrix_c _) (by kernel_rfl) (fun v t => by kernel_rfl) (by simp) fun v2 u2 _ => ?_
  refine ex_init1P (ev_decimal rm (ev_nameP (P := IsI i3) (by walk_at "mem") ⟨_, rfl⟩) (by kernel_rfl)) (by walk_at "nm") (so_Matrix_d _) (by kernel_rfl) (fun v t => by kernel_rfl) (by simp) fun v3 u3 _ => ?_
  refine ex_init1P (ev_decimal rm (ev_nameP (P := IsI i4) (by walk_at "mem") ⟨_, rfl⟩) (by kernel_rfl)) (by walk_at "nm") (so_Matrix_e _) (by kernel_rfl) (fun v t => by kernel_rfl) (by simp) fun v4 u4 _ => ?_
  refine ex_init1P (ev_decimal rm (ev_nameP (P := IsI i5) (by walk_at "mem") ⟨_, rfl⟩) (by kernel_rfl)) (by walk_at "nm") (so_Matrix_f _) (by kernel_rfl) (fun v t => by kernel_rfl) (by simp) fun v5 u5 _ => ?_
  exact ex_nil fun s C => ⟨_, _, C, rfl, trivial⟩
theorem identity_ct {w : World} : CtP w F_identity.f [] (fun _ => True) [] RefV 6 := by
  refine ct_def (F := F_identity) (binds := []) (k := 5) G_identity (by kernel_rfl) (by kernel_rfl) (by kernel_rfl) fun A s₀ g L outer base hf rm => ?_
  conv => { arg 4; whnf }
  refine exx_ret (may := False) (evn_inst (F := F_Matrix_init) (k := 4) (mk_Matrix _) (kp_Matrix _) (ev_glob (g_Matrix _)) (evsn_cons (evn_of (ev_int (x := 1))) fun _ _ _ => evsn_cons (evn_of (ev_int (x := 0))) fun _ _ _ => evsn_cons (evn_of (ev_int (x := 0))) fun _ _ _ => evsn_cons (evn_of (ev_int (x := 1))) fun _ _ _ => evsn_cons (evn_of (ev_int (x := 0))) fun _ _ _ => evsn_cons (evn_of (ev_int (x := 0))) fun _ _ _ => evsn_nil)
    (Pi := fun _ _ _ _ => True) (by
      intro vs n h92 x dx
      walk_at "h"
      obtain ⟨_, _, _, _, ⟨⟨t0, rfl⟩, rfl⟩, ⟨_, _, _, _, ⟨⟨t1, rfl⟩, rfl⟩, ⟨_, _, _, _, ⟨⟨t2, rfl⟩, rfl⟩, ⟨_, _, _, _, ⟨⟨t3, rfl⟩, rfl⟩, ⟨_, _, _, _, ⟨⟨t4, rfl⟩, rfl⟩, ⟨_, _, _, _, ⟨⟨t5, rfl⟩, rfl⟩, ⟨rfl, rfl⟩, rfl, rfl⟩, rfl, rfl⟩, rfl, rfl⟩, rfl, rfl⟩, rfl, rfl⟩, rfl, rfl⟩ := h92
      walk_at "u"
      exact Matrix_init) (rm.le (by decide))) (fun h => h.elim) fun v n s hv C => ?_
  walk_at "h"
  obtain ⟨n₁, rfl, _, _, x, dx, _, -, rfl, -, -⟩ := hv
  walk_at "u"
  exact ⟨_, [], C.drop (List.nil_sublist _), rfl, x, rfl⟩
theorem first_colour {w : World} {t : Tok} : CtP w F_first_colour.f [.str "DeviceGray" t] (fun _ => True) [] RefV 4 := by
  refine ct_def (F := F_first_colour) (binds := [(Str.ofString "space", .str "DeviceGray" t)]) (k := 3) G_first_colour (by kernel_rfl) (by kernel_rfl) (by kernel_rfl) fun A s₀ g L outer base hf rm => ?_
  conv => { arg 4; whnf }
  refine ex_assign (ev_decimal rm (ev_int (x := 0)) (by kernel_rfl)) (by kernel_rfl) (by walk_at "sub") (by kernel_rfl) fun v hv => ?_
  refine ex_if_t (ist_cmp (ev_nameP (P := IsS "DeviceGray") (by walk_at "mem") ⟨_, rfl⟩) ev_str (cmp_eq_str (by kernel_rfl))) ?_
  refine exx_ret (may := False) (evn_tup (evsn_cons (evn_of (by walk_at "nm" : Ev _ _ _ _ (· = Value.str "DeviceGray" t))) fun _ _ _ => evsn_cons (evn_tup (evsn_cons (evn_of (by walk_at "nm" : Ev _ _ _ _ (· = v))) fun _ _ _ => evsn_nil) hL1) fun _ _ _ => evsn_nil) hL2) (fun h => h.elim) fun v n s hv C => ?_
  walk_at "h"
  obtain ⟨n₁, rfl, a, _, _, rfl, -, -⟩ := hv
  walk_at "u"
  exact ⟨_, [], C.drop (List.nil_sublist _), rfl, a, rfl⟩
section
variable {Γ : G} {l l' : List (Str × Value)} {news news' fz : List (Addr × Obj)} {s : Shared} {rest : List Stmt} {Q : Flow → Shared → Prop} {E Er : Value → Shared → Prop}
theorem evx_call0 {fe : Expr} {f : Addr} {F : FI} {pos : Pos} {P : Value → List (Addr × Obj) → Prop} {may : Prop} (G : F.Good) (hf : Ev Γ l news fe (· = .ref F.f)) (hc : CallX Γ l news F.f [] P may)
    (hc' : eval (.Call fe [] [] pos) Γ.env = (do callWith pos (← eval fe Γ.env) [] (backTo pos (starEach [] Γ.env)) (backToKw pos (keywordEach [] Γ.env))) := by rfl) : EvX Γ l news (.Call fe [] [] pos) P may := fun s Q E C k hE =>
  Call_ (hf s _ E C fun v s' hv C' => by subst hv; exact callWith_meth0 (o := F.obj) (first := []) rfl (C'.k _ _ (G.k _)) (hc s' Q E C' k hE)) hc'
theorem evn_dict5 {k0 k1 k2 k3 k4 v0 v1 v2 v3 v4 : Expr} {pos : Pos} {s0 s1 s2 s3 s4 : Str} {P4 : Value → List (Addr × Obj) → Prop} (h0 : ∀ n, Ev Γ l n k0 (IsS s0)) (h1 : ∀ n, Ev Γ l n k1 (IsS s1)) (h2 : ∀ n, Ev Γ l n k2 (IsS s2)) (h3 : ∀ n, Ev Γ l n k3 (IsS s3)) (h4 : ∀ n, Ev Γ l n k4 (IsS s4))
    (g0 : ∀ n, Ev Γ l n v0 (fun _ => True)) (g1 : ∀ n, Ev Γ l n v1 (fun _ => True)) (g2 : ∀ n, Ev Γ l n v2 (fun _ => True)) (g3 : ∀ n, Ev Γ l n v3 (fun _ => True)) (g4 : ∀ n, EvN Γ l n v4 P4) :
    EvN Γ l news (.Dict [some k0, some k1, some k2, some k3, some k4] [v0, v1, v2, v3, v4] pos) (fun u n => ∃ d o kvs, u = .ref d ∧ (∃ n₁, n = (d, o) :: n₁) ∧ o.IsDictOf (PySem.strKind prg Γ.w) kvs ∧ (d == sysModules) = false ∧ kvs.length ≤ 5) := fun s Q E C k hE => by
  obtain ⟨m, F, hm⟩ := C.fr
  have lo : (s.heap.objs.size == sysModules) = false := F.notModules (modules_low C.ok.st.lim)
  refine wpAny_Dict_walk (knd := PySem.strKind prg Γ.w) rfl rfl (by simp) (by simp) ?_
  have C₁ := C.alloc { cls := .type "dict", data := .dict #[] } rfl
  refine pairTrees_cons_walk (h0 _ _ _ E C₁ fun kv0 q0 hk0 C₂ => g0 _ q0 _ E C₂ fun w0 q0' _ C₃ => ?_)
  refine pairTrees_cons_walk (h1 _ _ _ E C₃ fun kv1 q1 hk1 C₂ => g1 _ q1 _ E C₂ fun w1 q1' _ C₃ => ?_)
  refine pairTrees_cons_walk (h2 _ _ _ E C₃ fun kv2 q2 hk2 C₂ => g2 _ q2 _ E C₂ fun w2 q2' _ C₃ => ?_)
  refine pairTrees_cons_walk (h3 _ _ _ E C₃ fun kv3 q3 hk3 C₂ => g3 _ q3 _ E C₂ fun w3 q3' _ C₃ => ?_)
  refine pairTrees_cons_walk (h4 _ _ _ E C₃ fun kv4 q4 hk4 C₂ => g4 _ q4 _ E C₂ (fun w4 n q4' h4' C₃ => pairTrees_nil_walk ?_) (fun h => h.elim))
  obtain ⟨n₁, rfl, -⟩ := h4'
  have hd0 : q4'.heap.DictOf (PySem.strKind prg Γ.w) s.heap.objs.size [] := by
    obtain ⟨o, ho, hdo⟩ := Heap.dictOf_iff.mp (Heap.DictOf.new (knd := PySem.strKind prg Γ.w) s.heap)
    rw [Heap.get?_push_size _ rfl] at ho
    cases ho
    exact Heap.dictOf_iff.mpr ⟨_, C₃.obj (List.mem_append_right _ (.head _)), hdo⟩
  refine ⟨[(s0, w0), (s1, w1), (s2, w2), (s3, w3), (s4, w4)], ⟨strIs hk0, rfl, strIs hk1, rfl, strIs hk2, rfl, strIs hk3, rfl, strIs hk4, rfl, trivial⟩, hd0, fun h' hd' hs' => ?_⟩
  obtain ⟨o, ho, hdo⟩ := Heap.dictOf_iff.mp hd'
  refine k _ _ _ ⟨(s.heap.objs.size, o) :: n₁, rfl, _, o, _, rfl, ⟨n₁, rfl⟩, hdo, lo, ?_⟩ (((C₃.step (post := news) (fun b ob hb => hs'.extBut b ob (by simpa using hb)) ho)).perm List.perm_middle)
  exact Nat.le_trans (merged_length_le _ _) (by simp)
theorem stored_length_le {K : Type} [DecidableEq K] (kvs : List (K × Value)) (k : K) (v : Value) : (stored kvs k v).length ≤ kvs.length + 1 := by
  unfold stored; split <;> simp
end
section
variable {Γ : G} {l l' : List (Str × Value)} {news news' fz : List (Addr × Obj)} {s : Shared} {rest : List Stmt} {Q : Flow → Shared → Prop} {E : Value → Shared → Prop}
theorem ex_forY {x : Str} {px pos : Pos} {iter : Expr} {body : List Stmt} {N : Nat} {P : Nat → Value → Prop} {R : List (Addr × Obj) → List (Addr × Obj) → Prop} {may : Prop} (J : List (Addr × Obj) → Nat → List (Str × Value) → List (Addr × Obj) → Prop)
    (hm : MakesY Γ l news iter P N R) (h0 : ∀ own n, R own n → J own 0 l n) (hx : Γ.env.kindOf x = some .local) (hJ : ∀ own i l n, J own i l n → (l.all fun p => !(p.1 == x)) = true) (hO : ∀ own i l n, J own i l n → ∀ p ∈ own, p ∈ n)
    (turn : ∀ own i v l n t, i < N → P i v → J own i l n → Ex Γ ((x, v) :: l) (n ++ t) body (fun f s' => match f with | .next | .cont => ∃ l' n', J own (i + 1) l' n' ∧ Cx Γ l' (n' ++ t) s' | .brk => False | .ret v => Q (.ret v) s') (fun e s' => may ∧ Flies Γ e s'))
    (k : ∀ own l n, J own N l n → Ex Γ l n rest Q (fun e s' => may ∧ Flies Γ e s')) (hs : ∀ v, foldedSetIterable iter Γ.env v = pure v := by intro _; rfl) (hlo : Γ.env.locals = Γ.L := by rfl) : Ex Γ l news (.For (.Name x px) iter body [] pos :: rest) Q (fun e s' => may ∧ Flies Γ e s') := fun s C => by
  refine wpAny_execs_cons ?_
  show wpAny _ _ (standAt pos >>= fun _ => eval iter Γ.env >>= fun v => foldedSetIterable iter Γ.env v >>= fun y => standAt iter.pos >>= fun _ => holding [y] (pyIter y) >>= fun it => runOwn (.forLoop (.Name x px) it body [] Γ.env) Γ.env) _ _ s
  refine wpAny_bind (wpAny_standAt (wpAny_bind (wpAny_mono (hm s (fun it s₁ => wpAny (model prg Γ.w) Γ.A (runOwn (.forLoop (.Name x px) it body [] Γ.env) Γ.env) (fun f s' => match f with | .next => wpAny (model prg Γ.w) Γ.A (execs rest Γ.env) Q (fun e s' => may ∧ Flies Γ e s') s' | f => Q f s') (fun e s' => may ∧ Flies Γ e s') s₁) _ C ?_)
    (fun v s₁ h₁ => by rw [hs]; exact wpAny_bind (wpAny_pure (wpAny_bind (wpAny_standAt (wpAny_bind (wpAny_holding h₁)))))) fun _ _ z => z)))
  intro own it o fp St nw s₁ hR _ I st0 C₁
  unfold runOwn
  refine wpAny_onRaise (wpAny_run ?_ (by intro y; cases y))
  have key : codeAny (model prg Γ.w) (Γ.A.mark none) (.forLoop (.Name x px) (.ref it) body [] Γ.env) (fun r s' => match r with
      | .ok f => (match f with | .next => wpAny (model prg Γ.w) Γ.A (execs rest Γ.env) Q (fun e s' => may ∧ Flies Γ e s') s' | f => Q f s')
      | .error e => may ∧ Flies Γ e s' ∧ ∃ a, e = .ref a ∧ Noted s'.heap Γ.base Γ.L a (.ref 59)) s₁ := by
    have hA : Γ.A.mark none = Γ.A := by obtain ⟨hd, d, fr, gs, u⟩ := Γ.A; rfl
    rw [hA]
    refine codeAny_forLoop (fun fuel s' => ∃ i l' n' o', fuel = N - i ∧ i ≤ N ∧ J own i l' n' ∧ St i s'.heap ∧ Cx Γ l' (n' ++ [(it, o')]) s') ?_ N ⟨0, l, nw, o, rfl, Nat.zero_le _, h0 own nw hR, st0, C₁⟩
    intro fuel s' h92
    walk_at "h"
    obtain ⟨i, l', n', o', rfl, hi, hJi, hst, Ci⟩ := h92
    walk_at "u"
    by_cases hlt : i < N
    · refine I.W.item i s' _ _ hlt hst fun v h' tk hv hst' hk => ?_
      obtain ⟨o₂, ho₂⟩ := I.at_ _ _ hst'
      have C₂ := Ci.step (post := []) (n := tk) hk ho₂
      refine wpAny_assign_Name (st_local C₂ hx (fun _ h => h) (hJ own i l' n' hJi) (fun s₃ C₃ => ?_) hlo)
      refine wpAny_mono (turn own i v l' n' [(it, o₂)] hlt hv hJi s₃ C₃) (fun f s₄ hf => ?_) (fun e s₄ he => ?_)
      · have fin : (∃ l₂ n₂, J own (i + 1) l₂ n₂ ∧ Cx Γ l₂ (n₂ ++ [(it, o₂)]) s₄) → ∃ m, m < N - i ∧ ∃ i l' n' o', m = N - i ∧ i ≤ N ∧ J own i l' n' ∧ St i s₄.heap ∧ Cx Γ l' (n' ++ [(it, o')]) s₄ := fun ⟨l₂, n₂, hJ₂, C₄⟩ =>
          ⟨N - (i + 1), by omega, i + 1, l₂, n₂, o₂, rfl, hlt, hJ₂, I.over (s := { s' with heap := h', toks := tk }) hst' C₂ C₄ (List.mem_append_right _ (.head _)) (List.mem_append_right _ (.head _)) (fun p hp => List.mem_append_left _ (hO _ _ _ _ hJi p hp)) (fun p hp => List.mem_append_left _ (hO _ _ _ _ hJ₂ p hp)), C₄⟩
        cases f with
        | next => exact fin hf
        | cont => exact fin hf
        | brk => exact hf.elim
        | ret v => exact hf
      · exact he.2.note C₃.ok (fun s₅ a ha hn hf => ⟨he.1, hf, a, ha, hn⟩) hlo
    · obtain rfl : i = N := by omega
      refine I.W.done s' _ _ hst fun h' tk hk => ?_
      have C₂ := Ci.lose (post := []) (n := tk) hk
      rw [List.append_nil] at C₂
      exact wpAny_execs_nil (k own l' n' hJi _ C₂)
  refine codeAny_mono key fun r s₂ hr => ?_
  cases r with
  | ok f => cases f <;> exact hr
  | error e =>
    walk_at "h"
    obtain ⟨hmay, hf, a, ha, hn⟩ := hr
    walk_at "u"
    exact hf.own C.ok ha hn (fun s₃ hf' => ⟨hmay, hf'⟩) hlo
theorem makesY_tuple {iter : Expr} {N : Nat} {P : Nat → Value → Prop} {R : List Value → List (Addr × Obj) → Prop} (he : EvN Γ l news iter (fun v n => ∃ a vs n₁, v = .ref a ∧ R vs n₁ ∧ n = (a, { cls := .type "tuple", data := .seq vs.toArray }) :: n₁)) (hN : N ≤ 1000) (hR : ∀ vs n, R vs n → vs.length = N ∧ (∀ i v, vs[i]? = some v → P i v) ∧ n = []) :
    MakesY Γ l news iter P N (fun own n => ∃ p, own = [p] ∧ n = p :: news) := fun s Q E C k =>
  he s _ E C (fun v n s₁ hv C₁ => by
    walk_at "h"
    obtain ⟨n₁, rfl, D, items, n₂, rfl, hr, rfl⟩ := hv
    walk_at "u"
    obtain ⟨hlen, hP, rfl⟩ := hR items n₂ hr
    have hl : s₁.heap.IsTuple D items.toArray := ⟨_, C₁.obj (.head _), rfl, _, rfl⟩
    have hlt : D < s₁.heap.objs.size := by obtain ⟨_, e, _⟩ := hl; exact Heap.lt_size e
    have W := Walks.tuple (prog := prg) (w := Γ.w) (A := Γ.A) C₁.ok.hh s₁.heap.objs.size D (Nat.ne_of_lt hlt) items.toArray
    have hsz : items.toArray.size = N := by rw [List.size_toArray, hlen]
    rw [hsz] at W
    have W' : Walks prg Γ.w Γ.A s₁.heap.objs.size [s₁.heap.objs.size, D] [s₁.heap.objs.size] N P (fun i h => h.IsTupleIter s₁.heap.objs.size D i ∧ h.IsTuple D items.toArray) := ⟨W.sub, W.frame, fun i s Q E hi st hq => W.item i s Q E hi st fun v h' tk hv => hq v h' tk (hP i v (by simpa using hv)), W.done, W.self⟩
    refine wpAny_pyIter_tuple hl (k [(D, { cls := .type "tuple", data := .seq items.toArray })] _ _ [s₁.heap.objs.size, D] _ _ _ ⟨_, rfl, rfl⟩ hN ⟨W', fun i h st => by obtain ⟨o, e, _⟩ := st.1; exact ⟨o, e⟩, fun b hb => ?_⟩ ⟨⟨_, Heap.get?_push_size _ rfl, rfl, rfl⟩, hl.push _⟩ (C₁.allocE _ rfl))
    rcases List.mem_cons.mp hb with rfl | hb
    · exact .inl rfl
    · rw [List.mem_singleton.mp hb]; exact .inr (.inr (.head _))) (fun h => h.elim)
theorem ev_call0 {fe : Expr} {F : FI} {pos : Pos} {P : Value → Prop} (G : F.Good) (hf : Ev Γ l news fe (· = .ref F.f)) (hc : Run Γ l news (call (.ref F.f) []) P)
    (hc' : eval (.Call fe [] [] pos) Γ.env = (do callWith pos (← eval fe Γ.env) [] (backTo pos (starEach [] Γ.env)) (backToKw pos (keywordEach [] Γ.env))) := by rfl) : Ev Γ l news (.Call fe [] [] pos) P := fun s Q E C k =>
  evx_call0 (f := 0) (may := False) (P := fun v n => P v ∧ n = news) G hf (fun s Q E C k _ => hc s Q E C fun v s' hv C' => k v news s' ⟨hv, rfl⟩ C') hc' s Q E C (fun v n s' h C' => by obtain ⟨hv, rfl⟩ := h; exact k v s' hv C') (fun h => h.elim)
end
theorem first_values {w : World} : Ct w F_first_values.f [] (fun _ => True) [] (fun v n => ∃ d o kvs, v = .ref d ∧ n = [(d, o)] ∧ o.IsDictOf (PySem.strKind prg w) kvs ∧ (d == sysModules) = false ∧ kvs.length ≤ 20) False 4 := by
  refine ct_def (F := F_first_values) (binds := []) (k := 3) G_first_values (by kernel_rfl) (by kernel_rfl) (by kernel_rfl) fun A s₀ g L outer base hf rm => ?_
  conv => { arg 4; whnf }
  refine ex_assign (ev_decimal rm (ev_int (x := 0)) (by kernel_rfl)) (by kernel_rfl) (by walk_at "sub") (by kernel_rfl) fun z hz => ?_
  refine exx_assign (P := fun v n => ∃ d o kvs, v = .ref d ∧ (∃ n₁, n = (d, o) :: n₁) ∧ o.IsDictOf (PySem.strKind prg w) kvs ∧ (d == sysModules) = false ∧ kvs.length ≤ 5) (may := False)
    (EvX.mono (evn_dict5 (s0 := "width") (s1 := "cap") (s2 := "join") (s3 := "miter") (s4 := "dash") (fun n => ev_str) (fun n => ev_str) (fun n => ev_str) (fun n => ev_str) (fun n => ev_str) (fun n => (ev_decimal rm (ev_int (x := 1)) (by kernel_rfl)).mono fun _ _ => trivial) (fun n => (ev_int (x := 0)).mono fun _ _ => trivial) (fun n => (ev_int (x := 0)).mono fun _ _ => trivial) (fun n => (ev_decimal rm (ev_int (x := 10)) (by kernel_rfl)).mono fun _ _ => trivial)
      (fun n => evn_tup (evsn_cons (evn_tup evsn_nil hL0) fun _ _ _ => evsn_cons (evn_of (by walk_at "nm" : Ev _ _ _ _ (· = z))) fun _ _ _ => evsn_nil) hL2))
      fun v n h => by obtain ⟨n₁, rfl, d, o, kvs, h1, ⟨n₂, rfl⟩, h3, h4, h5⟩ := h; exact ⟨d, o, kvs, h1, ⟨_, rfl⟩, h3, h4, h5⟩) (fun h => h.elim) (by kernel_rfl) (by walk_at "sub") (by kernel_rfl) (hide2 fun _ u9 v n hv => ?_)
  obtain ⟨d, o, kvs, rfl, ⟨n₁, rfl⟩, ho, hdm, hk5⟩ := hv
  refine u9 _ _ ?_; clear u9
  refine Ex.drop (news' := [(d, o)]) ?_ (List.Sublist.cons₂ _ (List.nil_sublist _))
  have hset : ∀ {l : List (Str × Value)} {fz pre : List (Addr × Obj)} {od : Obj} {kv : List (Str × Value)} {key : Str} {oe ie e : Expr} {p1 pos : Pos} {rest : List Stmt} {Q : Flow → Shared → Prop} {E : Value → Shared → Prop} {m : Nat}, od.IsDictOf (PySem.strKind prg w) kv → kv.length ≤ m → m ≤ 100 → Ev ⟨w, A, s₀, g, L, outer, base, F_first_values.env L⟩ l (pre ++ (d, od) :: fz) e (fun _ => True) →
      Ev ⟨w, A, s₀, g, L, outer, base, F_first_values.env L⟩ l (pre ++ (d, od) :: fz) oe (· = .ref d) → Ev ⟨w, A, s₀, g, L, outer, base, F_first_values.env L⟩ l (pre ++ (d, od) :: fz) ie (IsS key) → swapsWith e (some (.Subscript oe ie p1)) pos.line (F_first_values.env L) = pure false →
      (∀ od' kv', od'.IsDictOf (PySem.strKind prg w) kv' → kv'.length ≤ m + 1 → Ex ⟨w, A, s₀, g, L, outer, base, F_first_values.env L⟩ l (pre ++ (d, od') :: fz) rest Q E) → Ex ⟨w, A, s₀, g, L, outer, base, F_first_values.env L⟩ l (pre ++ (d, od) :: fz) (.Assign [.Subscript oe ie p1] e pos :: rest) Q E :=
    fun {l fz pre od kv key oe ie e p1 pos rest Q E m} h1 h2 h2' h3 h4 h5 hsw k => exx_setdict (knd := PySem.strKind prg w) (kvs := kv) (R := fun _ _ _ _ _ _ => True) (may := False) (P := fun v n => True ∧ n = pre ++ (d, od) :: fz) (evx_of h3) (fun h => h.elim) (fun v n hv => by
      obtain ⟨-, rfl⟩ := hv
      exact ⟨pre, d, od, fz, key, rfl, h1, by omega, h4, h5.mono fun j hj => strIs hj, fun od' hod => k od' _ hod (Nat.le_trans (stored_length_le _ _ _) (by omega))⟩) hsw
  refine ex_forY (N := 5) (P := fun i v => ∃ x, IsS x v) (R := fun own n => ∃ p, own = [p] ∧ n = p :: [(d, o)]) (may := False) (fun own i l n => l = [(Str.ofString "found", .ref d), (Str.ofString "zero", z)] ∧ ∃ p od kv, own = [p] ∧ n = p :: [(d, od)] ∧ od.IsDictOf (PySem.strKind prg w) kv ∧ kv.length ≤ 5 + i)
    (makesY_tuple (evn_tup (evsn_cons (evn_of ev_str) fun _ _ _ => evsn_cons (evn_of ev_str) fun _ _ _ => evsn_cons (evn_of ev_str) fun _ _ _ => evsn_cons (evn_of ev_str) fun _ _ _ => evsn_cons (evn_of ev_str) fun _ _ _ => evsn_nil)
      (by rintro _ _ ⟨_, _, _, _, -, ⟨_, _, _, _, -, ⟨_, _, _, _, -, ⟨_, _, _, _, -, ⟨_, _, _, _, -, ⟨rfl, rfl⟩, rfl, rfl⟩, rfl, rfl⟩, rfl, rfl⟩, rfl, rfl⟩, rfl, rfl⟩; simp)) (by decide)
      (by
        refine hide2 fun _ u9 => ?_
        rintro _ _ ⟨_, _, _, _, ⟨h1, rfl⟩, ⟨_, _, _, _, ⟨h2, rfl⟩, ⟨_, _, _, _, ⟨h3, rfl⟩, ⟨_, _, _, _, ⟨h4, rfl⟩, ⟨_, _, _, _, ⟨h5, rfl⟩, ⟨rfl, rfl⟩, rfl, rfl⟩, rfl, rfl⟩, rfl, rfl⟩, rfl, rfl⟩, rfl, rfl⟩
        refine u9 _ _ ?_; clear u9
        refine ⟨rfl, fun i v hv => ?_, rfl⟩
        match i, hv with
        | 0, hv => cases hv; exact ⟨_, h1⟩
        | 1, hv => cases hv; exact ⟨_, h2⟩
        | 2, hv => cases hv; exact ⟨_, h3⟩
        | 3, hv => cases hv; exact ⟨_, h4⟩
        | 4, hv => cases hv; exact ⟨_, h5⟩
        | i + 5, hv => simp at hv))
    (by rintro own n ⟨p, rfl, rfl⟩; exact ⟨rfl, p, o, kvs, rfl, rfl, ho, hk5⟩) (by kernel_rfl) ?_ ?_ ?_ ?_
  · rintro own i l n ⟨rfl, -⟩; kernel_rfl
  · intro own i l n h94 q hq
    walk_at "h"
    obtain ⟨-, p, od, kv, rfl, rfl, -⟩ := h94
    walk_at "u"
    rw [List.mem_singleton.mp hq]; exact .head _
  · intro own i v l n fz hi h97 h98
    walk_at "h"
    obtain ⟨x, tx, rfl⟩ := h97
    obtain ⟨rfl, p, od, kv, rfl, rfl, h1, h2⟩ := h98
    walk_at "u"
    refine hset (pre := [p]) (fz := fz) (m := 5 + i) (key := x) h1 h2 (by omega) ((by walk_at "nm" : Ev _ _ _ _ (· = z)).mono fun _ _ => trivial) (by walk_at "nm" : Ev _ _ _ _ (· = Value.ref d)) (ev_nameP (by walk_at "mem") ⟨_, rfl⟩) (by rfl) fun od' kv' g1 g2 => ?_
    exact ex_nil fun s C => ⟨_, p :: [(d, od')], ⟨rfl, p, od', kv', rfl, rfl, g1, by omega⟩, C.weak (by walk_at "sub")⟩
  · intro own l n h93
    walk_at "h"
    obtain ⟨rfl, p, od, kv, rfl, rfl, h1, h2⟩ := h93
    walk_at "u"
    refine hset (pre := [p]) (fz := []) (m := 10) (key := "scale") h1 (by omega) (by decide) ((ev_decimal rm (ev_int (x := 100)) (by kernel_rfl)).mono fun _ _ => trivial) (by walk_at "nm" : Ev _ _ _ _ (· = Value.ref d)) ev_str (by rfl) fun o1 kv1 g1 g2 => ?_
    refine hset (pre := [p]) (fz := []) (m := 11) (key := "font") g1 (by omega) (by decide) ((ev_str (x := "")).mono fun _ _ => trivial) (by walk_at "nm" : Ev _ _ _ _ (· = Value.ref d)) ev_str (by rfl) fun o2 kv2 g3 g4 => ?_
    refine hset (pre := [p]) (fz := []) (m := 12) (key := "mode") g3 (by omega) (by decide) ((ev_int (x := 0)).mono fun _ _ => trivial) (by walk_at "nm" : Ev _ _ _ _ (· = Value.ref d)) ev_str (by rfl) fun o3 kv3 g5 g6 => ?_
    exact ex_ret (by walk_at "nm" : Ev _ _ _ _ (· = Value.ref d)) fun v s hv C => ⟨_, [(d, o3)], C.drop (List.sublist_cons_self _ _), d, o3, kv3, hv, rfl, g5, hdm, by omega⟩
def FvO (w : World) (v : Value) (n : List (Addr × Obj)) : Prop := ∃ d o kvs, v = .ref d ∧ n = [(d, o)] ∧ o.IsDictOf (PySem.strKind prg w) kvs ∧ (d == sysModules) = false ∧ kvs.length ≤ 20
def StO (w : World) (v : Value) (n : List (Addr × Obj)) : Prop := ∃ x dx d o kvs mx cl fi sr t0 t1 t2 t3 t4 k, v = .ref x ∧ n = [(x, instObj 597 dx), (dx, dictOf [E w.params "matrix" t0 mx, E w.params "clips" t1 cl, E w.params "fill" t2 fi, E w.params "stroke" t3 sr, E w.params "values" t4 (.ref d)] k), (d, o)] ∧ RefV mx ∧ RefV cl ∧ RefV fi ∧ RefV sr ∧ o.IsDictOf (PySem.strKind prg w) kvs ∧ (d == sysModules) = false ∧ kvs.length ≤ 20
theorem kp_State (P : Params) : keepIn (KL P) (.ref 597) = true := by kernel_rfl
theorem d616 (P : Params) : (KL P).lookup 616 = some JAN := by kernel_rfl
theorem first_state {w : World} : Ct w F_first_state.f [.none] (fun _ => True) [] (StO w) False 7 := by
  refine ct_defD (F := F_first_state) (binds := [(Str.ofString "matrix", .none)]) (k := 6) (T := 616) G_first_state rfl (d616 _) rfl rfl (by rfl) (by kernel_rfl) (by kernel_rfl) fun A s₀ g L outer base hf rm => ?_
  conv => { arg 4; whnf }
  refine ex_assign (P := RefV) (ev_if_t (ist_cmp (by walk_at "nm" : Ev _ _ _ _ (· = Value.none)) ev_none (cmp_is_none (by rfl))) (ev_call0 G_identity (ev_glob (g_identity _)) (CtP.run0 identity_ct rm trivial fun _ _ h _ => h))) (by kernel_rfl) (by walk_at "sub") (by kernel_rfl) fun mx hmx => ?_
  have hcol : ∀ {news : List (Addr × Obj)} {p1 p2 p3 : Pos} {i : Nat}, Ev ⟨w, A, s₀, g, L, outer, base, F_first_state.env L⟩ [(Str.ofString "start", mx), (Str.ofString "matrix", .none)] news (.Call (.Name "first_colour" p1) [.Constant (.str "DeviceGray") i p2] [] p3) RefV := fun {news p1 p2 p3 i} =>
    ev_callP G_first_colour (ev_glob (g_first_colour _)) (evs_cons (ev_str (x := "DeviceGray")) evs_nil) (fun vs hv => by
      walk_at "h"
      obtain ⟨_, ⟨t, rfl⟩, _, rfl, rfl⟩ := hv
      walk_at "u"
      exact CtP.run0 (first_colour (t := t)) (rm.le (by decide)) trivial fun _ _ h _ => h)
  refine exx_ret (may := False) (evn_inst (F := F_State_init) (k := 1) (mk_State _) (kp_State _) (ev_glob (g_State _)) (evsn_cons (evn_of (by walk_at "nm" : Ev _ _ _ _ (· = mx))) fun _ _ _ => evsn_cons (evn_tup evsn_nil hL0) fun _ _ _ => evsn_cons (evn_of hcol) fun _ _ _ => evsn_cons (evn_of hcol) fun _ _ _ =>
      evsn_cons (P := FvO w) (EvX.mono (evx_call0 (f := 0) (may := False) G_first_values (ev_glob (g_first_values _)) (Ct.use1 (news := []) first_values (rm.le (by decide)) trivial fun _ _ h _ => h)) fun v n h => h) fun _ _ _ => evsn_nil)
    (Pi := fun vs x dx n => ∃ a b c d e, vs = [a, b, c, d, e] ∧ ∃ t1 t2 t3 t4 t5 k, n = [(x, instObj 597 dx), (dx, dictOf [E w.params "matrix" t1 a, E w.params "clips" t2 b, E w.params "fill" t3 c, E w.params "stroke" t4 d, E w.params "values" t5 e] k)]) ?i1 (rm.le (by decide))) (fun h => h.elim) fun v n s hv C => ?_
  case i1 =>
    refine hide2 fun _ u9 => ?_
    rintro vs n ⟨a, _, _, _, -, ⟨b, _, _, _, -, ⟨c, _, _, _, -, ⟨d, _, _, _, -, ⟨e, _, _, _, -, ⟨rfl, rfl⟩, rfl, rfl⟩, rfl, rfl⟩, rfl, rfl⟩, rfl, rfl⟩, rfl, rfl⟩
    refine u9 _ _ ?_; clear u9
    intro x dx
    exact fun A outer base g s R Pr room hf hQ hE => state_init (a := a) (b := b) (c := c) (d := d) (e := e) A outer base g s R Pr room hf (fun u n s' hp B => hQ u n s' ⟨hp.1, a, b, c, d, e, rfl, hp.2⟩ B) hE
  walk_at "h"
  obtain ⟨n₁, rfl, vs, n₀, x, dx, n₂, ⟨_, _, _, _, ⟨rfl, rfl⟩, ⟨_, _, _, _, ⟨ca, _, _, rfl, ⟨rfl, rfl⟩, rfl⟩, ⟨fi, _, _, _, ⟨hfi, rfl⟩, ⟨sr, _, _, _, ⟨hsr, rfl⟩, ⟨_, _, _, _, ⟨d, o, kvs, rfl, rfl, h3, h4, h5⟩, ⟨rfl, rfl⟩, rfl, rfl⟩, rfl, rfl⟩, rfl, rfl⟩, rfl, rfl⟩, rfl, rfl⟩, rfl, ⟨_, _, _, _, _, h6, t1, t2, t3, t4, t5, k, rfl⟩, rfl⟩ := hv
  walk_at "u"
  cases h6
  refine ⟨_, [(x, instObj 597 dx), (dx, dictOf _ k), (d, o)], C.drop ?_, x, dx, d, o, kvs, _, _, fi, sr, t1, t2, t3, t4, t5, k, rfl, rfl, hmx, ⟨ca, rfl⟩, hfi, hsr, h3, h4, h5⟩
  simp
theorem StO.sf {w : World} {v : Value} {n : List (Addr × Obj)} {g : Heap} (h : StO w v n) (st : Std n g) : ∃ mx cl fi sr vd kvs, SF g v mx cl fi sr vd ∧ SD w (PySem.strKind prg w) g vd kvs ∧ kvs.length ≤ 1000 := by
  walk_at "h"
  obtain ⟨x, dx, d, o, kvs, mx, cl, fi, sr, t0, t1, t2, t3, t4, k, rfl, rfl, h1, h2, h3, h4, h5, h6, h7⟩ := h
  walk_at "u"
  have z1 := st _ (.head _)
  have z2 := st _ (.tail _ (.head _))
  have z3 := st _ (.tail _ (.tail _ (.head _)))
  exact ⟨mx, cl, fi, sr, d, kvs, ⟨x, rfl, ⟨dx, _, k, z1, z2, by kernel_rfl, h1.in⟩, ⟨dx, _, k, z1, z2, by kernel_rfl, h2.in⟩, ⟨dx, _, k, z1, z2, by kernel_rfl, h3.in⟩, ⟨dx, _, k, z1, z2, by kernel_rfl, h4.in⟩, ⟨dx, _, k, z1, z2, by kernel_rfl, rfl⟩⟩, ⟨Heap.dictOf_iff.mpr ⟨o, z3, h5⟩, h6⟩, by omega⟩
section
variable {Γ : G} {l l' : List (Str × Value)} {news news' fz : List (Addr × Obj)} {s : Shared} {rest : List Stmt} {Q : Flow → Shared → Prop} {E : Value → Shared → Prop}
theorem evn_inst0 {fe : Expr} {C : Addr} {F : FI} {pos : Pos} {Pi : Addr → Addr → List (Addr × Obj) → Prop} {k : Nat} (ok : makeOk (KL Γ.w.params) C F.f = true) (kp : keepIn (KL Γ.w.params) (.ref C) = true) (hf : Ev Γ l news fe (· = .ref C))
    (c : ∀ x dx, CtC Γ.w F.f [.ref x] (fun _ => True) [(x, instObj C dx), (dx, emptyDict)] (fun v n => v = .none ∧ Pi x dx n) False k) (rm : Room Γ.A (k + 1))
    (hc' : eval (.Call fe [] [] pos) Γ.env = (do callWith pos (← eval fe Γ.env) [] (backTo pos (starEach [] Γ.env)) (backToKw pos (keywordEach [] Γ.env))) := by rfl) :
    EvN Γ l news (.Call fe [] [] pos) (fun v n => ∃ x dx, v = .ref x ∧ Pi x dx n) := fun s Q E C₀ q _ =>
  Call_ (hf s _ E C₀ fun v s₁ hv C₁ => by
    subst hv
    refine callWith_K0 C₁.k kp ?_
    refine mk_inst (news := []) (fz := news) (args := []) ok c rm C₁ (fun x dx s' C' => trivial) fun x dx n s' hP C' => ?_
    exact q _ _ s' ⟨n, rfl, x, dx, rfl, hP⟩ C') hc'
end
theorem d470 (P : Params) : (KL P).lookup 470 = some J7x := by kernel_rfl
theorem mk_Path (P : Params) : makeOk (KL P) 480 F_Path_init.f = true := by kernel_rfl
theorem kp_Path (P : Params) : keepIn (KL P) (.ref 480) = true := by kernel_rfl
theorem so_Path (P : Params) : setOk (KL P) 480 "parts" = true := by kernel_rfl
theorem Path_init {w : World} {x dx : Addr} : CtC w F_Path_init.f [.ref x] (fun _ => True) [(x, instObj 480 dx), (dx, emptyDict)] (fun v n => v = .none ∧ ∃ t k, n = [(x, instObj 480 dx), (dx, dictOf [E w.params "parts" t (.ref 469)] k)]) False 1 := by
  refine ctc_defD (F := F_Path_init) (binds := [(Str.ofString "self", .ref x), (Str.ofString "parts", .ref 469)]) (k := 0) (T := 470) G_Path_init rfl (d470 _) rfl rfl (by rfl) (by kernel_rfl) (by kernel_rfl) fun A s₀ g L outer base hf rm => ?_
  conv => { arg 4; whnf }
  show Ex _ _ [(x, instObj 480 dx), (dx, dictOf [] 0)] _ _ _
  refine ex_init1 (v := .ref 469) (by walk_at "nm") (by walk_at "nm") (so_Path _) (by kernel_rfl) (fun t => by kernel_rfl) (by simp) fun t1 => ?_
  exact ex_nil fun s C => ⟨_, _, C, rfl, t1, _, rfl⟩
theorem d313 (P : Params) : (KL P).lookup 313 = some J5J := by kernel_rfl
theorem mk_Shelf (P : Params) : makeOk (KL P) 391 F_Lookup_init.f = true := by kernel_rfl
theorem kp_Shelf (P : Params) : keepIn (KL P) (.ref 391) = true := by kernel_rfl
theorem so_Shelf (P : Params) : setOk (KL P) 391 "table" = true ∧ setOk (KL P) 391 "trailer" = true := ⟨by kernel_rfl, by kernel_rfl⟩
def ShO (w : World) (x : Addr) (n : List (Addr × Obj)) : Prop := ∃ dx tb ot tr otr t t' k, n = [(x, instObj 391 dx), (dx, dictOf [E w.params "table" t (.ref tb), E w.params "trailer" t' (.ref tr)] k), (tb, ot), (tr, otr)] ∧ ot.IsDictOf (PySem.intKind prg w) ([] : List (Int × Value)) ∧ (tb == sysModules) = false
theorem Lookup_init {w : World} {x dx : Addr} : CtC w F_Lookup_init.f [.ref x] (fun _ => True) [(x, instObj 391 dx), (dx, emptyDict)] (fun v n => v = .none ∧ ShO w x n) False 1 := by
  refine ctc_defD (F := F_Lookup_init) (binds := [(Str.ofString "self", .ref x), (Str.ofString "table", .none), (Str.ofString "trailer", .none)]) (k := 0) (T := 313) G_Lookup_init rfl (d313 _) rfl rfl (by rfl) (by kernel_rfl) (by kernel_rfl) fun A s₀ g L outer base hf rm => ?_
  conv => { arg 4; whnf }
  obtain ⟨o1, o2⟩ := so_Shelf w.params
  show Ex _ _ ((x, instObj 391 dx) :: (dx, dictOf [] 0) :: []) _ _ _
  refine ex_init1N (evx_if_t (ist_cmp (by walk_at "nm" : Ev _ _ _ _ (· = Value.none)) ev_none (cmp_is_none (by rfl))) evn_dict0) (fun n => by walk_at "nm") o1 (by kernel_rfl) (fun v t => by kernel_rfl) (by simp) (hide3 fun _ u9 v t1 n₁ hv => ?_)
  obtain ⟨tb, ot, rfl, rfl, h1, -, h2⟩ := hv
  refine u9 _ _ _ ?_; clear u9
  refine ex_init1N (evx_if_t (ist_cmp (by walk_at "nm" : Ev _ _ _ _ (· = Value.none)) ev_none (cmp_is_none (by rfl))) evn_dict0) (fun n => by walk_at "nm") o2 (by kernel_rfl) (fun v t => by kernel_rfl) (by simp) fun v t2 n₂ hv => ?_
  walk_at "h"
  obtain ⟨tr, otr, rfl, rfl, -, -, -⟩ := hv
  walk_at "u"
  exact ex_nil fun s C => ⟨_, _, C, rfl, dx, tb, ot, tr, otr, t1, t2, _, rfl, h2, h1⟩
theorem d722 (P : Params) : (KL P).lookup 722 = some JC9 := by kernel_rfl
theorem mk_Painter (P : Params) : makeOk (KL P) 739 F_Painter_init.f = true := by kernel_rfl
theorem kp_Painter (P : Params) : keepIn (KL P) (.ref 739) = true := by kernel_rfl
theorem sp_shelf (P : Params) : setOk (KL P) 739 "shelf" = true := by kernel_rfl
theorem sp_resources (P : Params) : setOk (KL P) 739 "resources" = true := by kernel_rfl
theorem sp_opener (P : Params) : setOk (KL P) 739 "opener" = true := by kernel_rfl
theorem sp_state (P : Params) : setOk (KL P) 739 "state" = true := by kernel_rfl
theorem sp_pile (P : Params) : setOk (KL P) 739 "pile" = true := by kernel_rfl
theorem sp_floor (P : Params) : setOk (KL P) 739 "floor" = true := by kernel_rfl
theorem sp_path (P : Params) : setOk (KL P) 739 "path" = true := by kernel_rfl
theorem sp_rule (P : Params) : setOk (KL P) 739 "rule" = true := by kernel_rfl
theorem sp_text (P : Params) : setOk (KL P) 739 "text" = true := by kernel_rfl
theorem sp_skips (P : Params) : setOk (KL P) 739 "skips" = true := by kernel_rfl
theorem sp_open_forms (P : Params) : setOk (KL P) 739 "open_forms" = true := by kernel_rfl
theorem sp_marks (P : Params) : setOk (KL P) 739 "marks" = true := by kernel_rfl
theorem sp_clips (P : Params) : setOk (KL P) 739 "clips" = true := by kernel_rfl
def PaO (w : World) (x dx : Addr) (sh re op : Value) (n : List (Addr × Obj)) : Prop := ∃ (tk : Nat → Tok) (st : Value) (stn : List (Addr × Obj)) (pl xa xd fo mr cp : Addr) (tf tr ts tp kp kd : Nat),
  n = (x, instObj 739 dx) :: (dx, dictOf (pent w.params tk sh re op st (.ref pl) (.int 0 tf) (.ref xa) (.str "" tr) .none (.int 0 ts) (.ref fo) (.ref mr) (.ref cp)) kd) :: (stn ++ [(pl, listOf #[] 0), (xa, instObj 480 xd), (xd, dictOf [E w.params "parts" tp (.ref 469)] kp), (fo, listOf #[] 0), (mr, listOf #[] 0), (cp, listOf #[] 0)]) ∧ StO w st stn
theorem Painter_init {w : World} {x dx : Addr} {sh re op : Value} : CtC w F_Painter_init.f [.ref x, sh, re, op] (fun _ => True) [(x, instObj 739 dx), (dx, emptyDict)] (fun v n => v = .none ∧ PaO w x dx sh re op n) False 8 := by
  refine ctc_defD (F := F_Painter_init) (binds := [(Str.ofString "self", .ref x), (Str.ofString "shelf", sh), (Str.ofString "resources", re), (Str.ofString "opener", op), (Str.ofString "matrix", .none)]) (k := 7) (T := 722) G_Painter_init rfl (d722 _) rfl rfl (by rfl) (by kernel_rfl) (by kernel_rfl) fun A s₀ g L outer base hf rm => ?_
  conv => { arg 4; whnf }
  show Ex _ _ ((x, instObj 739 dx) :: (dx, dictOf [] 0) :: []) _ _ _
  refine ex_init1N (evn_of (by walk_at "nm" : Ev _ _ _ _ (· = sh))) (fun n => by walk_at "nm") (sp_shelf _) (by kernel_rfl) (fun v t => by kernel_rfl) (by simp) (hide3 fun _ u9 v t0 n₁ hv => ?_)
  obtain ⟨rfl, rfl⟩ := hv
  refine u9 _ _ _ ?_; clear u9
  refine ex_init1N (evn_of (by walk_at "nm" : Ev _ _ _ _ (· = re))) (fun n => by walk_at "nm") (sp_resources _) (by kernel_rfl) (fun v t => by kernel_rfl) (by simp) (hide3 fun _ u9 v t1 n₁ hv => ?_)
  obtain ⟨rfl, rfl⟩ := hv
  refine u9 _ _ _ ?_; clear u9
  refine ex_init1N (evn_of (by walk_at "nm" : Ev _ _ _ _ (· = op))) (fun n => by walk_at "nm") (sp_opener _) (by kernel_rfl) (fun v t => by kernel_rfl) (by simp) (hide3 fun _ u9 v t2 n₁ hv => ?_)
  obtain ⟨rfl, rfl⟩ := hv
  refine u9 _ _ _ ?_; clear u9
  refine ex_init1N (EvX.mono (evx_call (f := 0) (may := False) G_first_state (ev_glob (g_first_state _)) (evs_cons (by walk_at "nm" : Ev _ _ _ _ (· = Value.none)) evs_nil) (P := fun v n => ∃ n₁, n = n₁ ++ _ ∧ StO w v n₁) fun vs hv => by
      walk_at "h"
      obtain ⟨_, rfl, _, rfl, rfl⟩ := hv
      walk_at "u"
      exact Ct.use1 (news := []) first_state (rm.le (by decide)) trivial fun _ _ h _ => h) fun v n h => h) (fun n => by walk_at "nm") (sp_state _) (by kernel_rfl) (fun v t => by kernel_rfl) (by simp) fun st t3 stn hst => ?_
  refine ex_init1N (evn_list evsn_nil hL0) (fun n => by walk_at "nm") (sp_pile _) (by kernel_rfl) (fun v t => by kernel_rfl) (by simp) (hide3 fun _ u9 v t4 n₁ hv => ?_)
  obtain ⟨pl, _, _, rfl, ⟨rfl, rfl⟩, rfl⟩ := hv
  refine u9 _ _ _ ?_; clear u9
  refine ex_init1N (evn_of (ev_int (x := 0))) (fun n => by walk_at "nm") (sp_floor _) (by kernel_rfl) (fun v t => by kernel_rfl) (by simp) (hide3 fun _ u9 v t5 n₁ hv => ?_)
  obtain ⟨⟨tf, rfl⟩, rfl⟩ := hv
  refine u9 _ _ _ ?_; clear u9
  refine ex_init1N (evn_inst0 (F := F_Path_init) (k := 1) (mk_Path _) (kp_Path _) (ev_glob (g_Path _)) (fun x dx => Path_init) (rm.le (by decide))) (fun n => by walk_at "nm") (sp_path _) (by kernel_rfl) (fun v t => by kernel_rfl) (by simp) (hide3 fun _ u9 v t6 n₁ hv => ?_)
  obtain ⟨xa, xd, rfl, tp, kp, rfl⟩ := hv
  refine u9 _ _ _ ?_; clear u9
  refine ex_init1N (evn_of (ev_str (x := ""))) (fun n => by walk_at "nm") (sp_rule _) (by kernel_rfl) (fun v t => by kernel_rfl) (by simp) (hide3 fun _ u9 v t7 n₁ hv => ?_)
  obtain ⟨⟨tr, rfl⟩, rfl⟩ := hv
  refine u9 _ _ _ ?_; clear u9
  refine ex_init1N (evn_of ev_none) (fun n => by walk_at "nm") (sp_text _) (by kernel_rfl) (fun v t => by kernel_rfl) (by simp) (hide3 fun _ u9 v t8 n₁ hv => ?_)
  obtain ⟨rfl, rfl⟩ := hv
  refine u9 _ _ _ ?_; clear u9
  refine ex_init1N (evn_of (ev_int (x := 0))) (fun n => by walk_at "nm") (sp_skips _) (by kernel_rfl) (fun v t => by kernel_rfl) (by simp) (hide3 fun _ u9 v t9 n₁ hv => ?_)
  obtain ⟨⟨ts, rfl⟩, rfl⟩ := hv
  refine u9 _ _ _ ?_; clear u9
  refine ex_init1N (evn_list evsn_nil hL0) (fun n => by walk_at "nm") (sp_open_forms _) (by kernel_rfl) (fun v t => by kernel_rfl) (by simp) fun v t10 n₁ hv => ?_
  walk_at "h"
  obtain ⟨fo, _, _, rfl, ⟨rfl, rfl⟩, rfl⟩ := hv
  walk_at "u"
  refine ex_init1N (evn_list evsn_nil hL0) (fun n => by walk_at "nm") (sp_marks _) (by kernel_rfl) (fun v t => by kernel_rfl) (by simp) fun v t11 n₁ hv => ?_
  walk_at "h"
  obtain ⟨mr, _, _, rfl, ⟨rfl, rfl⟩, rfl⟩ := hv
  walk_at "u"
  refine ex_init1N (evn_list evsn_nil hL0) (fun n => by walk_at "nm") (sp_clips _) (by kernel_rfl) (fun v t => by kernel_rfl) (by simp) fun v t12 n₁ hv => ?_
  walk_at "h"
  obtain ⟨cp, _, _, rfl, ⟨rfl, rfl⟩, rfl⟩ := hv
  walk_at "u"
  refine ex_nil fun s C => ⟨_, _, C, rfl, fun i => [t0, t1, t2, t3, t4, t5, t6, t7, t8, t9, t10, t11, t12].getD i 0, st, stn, pl, xa, xd, fo, mr, cp, tf, tr, ts, tp, kp, 13, ?_, hst⟩
  simp only [List.append_assoc, List.nil_append, List.append_nil, List.cons_append]
  rfl
theorem a_table' (P : Params) : attrOk (KL P) 391 "table" = true := by kernel_rfl
theorem put {w : World} {sa tb st : Addr} {ot : Obj} {k : Int} {t : Tok} {gn : Value} {kvs : List (Int × Value)} (ho : ot.IsDictOf (PySem.intKind prg w) kvs) (hz : kvs.length ≤ 900) : Ct w F_Shelf_put.f [.ref sa, .int k t, gn, .ref st] (fun g => At g sa 391 "table" (.ref tb)) [(tb, ot)]
    (fun v n => v = .none ∧ ∃ tp o', n = [(tb, o'), (tp, { cls := .type "tuple", data := .seq #[gn, .ref st] })] ∧ o'.IsDictOf (PySem.intKind prg w) (stored kvs k (.ref tp))) False 1 := by
  refine ct_def (F := F_Shelf_put) (binds := [(Str.ofString "self", .ref sa), (Str.ofString "number", .int k t), (Str.ofString "generation", gn), (Str.ofString "value", .ref st)]) (k := 0) G_Shelf_put (by kernel_rfl) (by kernel_rfl) (by kernel_rfl) fun A s₀ g L outer base hf rm => ?_
  conv => { arg 4; whnf }
  refine exx_setdict (knd := PySem.intKind prg w) (kvs := kvs) (R := fun _ _ _ _ _ _ => True) (may := False) (EvX.mono (evn_tup (evsn_cons (evn_of (by walk_at "nm" : Ev _ _ _ _ (· = gn))) fun _ _ _ => evsn_cons (evn_of (by walk_at "nm" : Ev _ _ _ _ (· = Value.ref st))) fun _ _ _ => evsn_nil) hL2)
    (P' := fun v n => ∃ tp, v = .ref tp ∧ n = [(tp, { cls := .type "tuple", data := .seq #[gn, .ref st] }), (tb, ot)]) fun v n h => by
      obtain ⟨n₁, rfl, a, _, _, rfl, ⟨_, _, _, _, ⟨rfl, rfl⟩, ⟨_, _, _, _, ⟨rfl, rfl⟩, ⟨rfl, rfl⟩, rfl, rfl⟩, rfl, rfl⟩, rfl⟩ := h
      exact ⟨a, rfl, rfl⟩) (fun h => h.elim) (hide2 fun _ u9 v n hv => ?_)
  obtain ⟨tp, rfl, rfl⟩ := hv
  refine u9 _ _ ?_; clear u9
  refine ⟨[(tp, _)], tb, ot, [], k, rfl, ho, by omega, ev_attr_name (by walk_at "nm" : Ev _ _ _ _ (· = Value.ref sa)) (get_at (a_table' _) (at_imm hf)), ev_nameP (by walk_at "mem") (intIs ⟨t, rfl⟩), fun od' hod => ?_⟩
  exact ex_nil fun s C => ⟨_, _, C.perm (List.Perm.swap _ _ _), rfl, tp, od', rfl, hod⟩
theorem nat_add_nlt (n i : Nat) : ¬ n + i < n := by omega
theorem nat_add_ne (n i : Nat) (h : 1 ≤ i) : n + i ≠ n := by omega
theorem nat_add_ne2 (n i j : Nat) (h : i ≠ j) : n + i ≠ n + j := by omega
noncomputable abbrev lawEnv (L : Addr) : Env := envX (Str.ofString "law") (fS [108]) L 967 (.ref 966) [(Str.ofString "held", L + 4), (Str.ofString "due", L + 3), (Str.ofString "names", L + 2), (Str.ofString "world", L + 1)]
theorem k967 (P : Params) : (KL P).lookup 967 = some F_law.obj := by kernel_rfl
theorem c967 (P : Params) : codeIn (KL P) (.ref 966) (Str.ofString "law") = true := by kernel_rfl
theorem law_cells (n : Addr) : cellsFrom n (fS [108]).names [] = [(Str.ofString "held", n + 3), (Str.ofString "due", n + 2), (Str.ofString "names", n + 1), (Str.ofString "world", n)] := by rfl
theorem law_enter {w : World} {A : Around} {outer : List Env} {base g : Heap} {muts : List (Addr × Obj)} {s : Shared} {v : Value} {R : Result → Shared → Prop} (P : Pre w A outer base g muts s) (hd : A.depth < 590) (hu : A.units < 8990)
    (h : ∀ L ow on od oh s₁, ow.data = .cell none → on.data = .cell none → od.data = .cell none → oh.data = .cell none → Cx ⟨w, A.deeper (lawEnv L), s, g, L, outer, base, lawEnv L⟩ [(Str.ofString "script", v)] ((L + 1, ow) :: (L + 2, on) :: (L + 3, od) :: (L + 4, oh) :: muts) s₁ →
      wpAny (model prg w) (A.deeper (lawEnv L)) (execs (fB [108]) (lawEnv L)) (fun fl s' => R (.ok (.ret (match fl with | .ret v => v | _ => .none))) s')
        (fun e s' => wpAny (model prg w) (A.deeper (lawEnv L)) (leaving (lawEnv L) e) (fun _ s'' => R (.error e) s'') (fun e' s'' => R (.error e') s'') s') s₁) :
    codeAny (model prg w) A (.call (.ref 967) ⟨[v], []⟩) R s := by
  have K := kl_in P.st
  have hf := P.keep _ _ (K _ _ (k967 _))
  have hb : BindsTo s F_law.fdt ⟨[v], []⟩ [(Str.ofString "script", v)] := BindsTo.of_eq (by kernel_rfl)
  have hbx : ∀ x ∈ [(Str.ofString "script", v)], (fS [108]).names.lookup x.1 = some .local := fun x hx => by rw [List.mem_singleton.mp hx]; kernel_rfl
  refine codeAny_call_function (Nat.lt_trans hd (by decide)) hf rfl (by kernel_rfl) (by kernel_rfl) rfl ((codeRec_of K (c967 _)).keeps P.keep) (hb _ _ _ _ ?_)
  refine wpAny_newFunctionEnv_cells (by kernel_rfl) (fun x hx => .inl (hbx x hx)) fun env' he s' X => ?_
  subst he
  refine ⟨(P.st.lim.keeps P.keep).keeps X.toInCall.keep, codeAny_func ?_⟩
  walk_at "h"
  obtain ⟨h₁, tk, rfl, _⟩ := X.done
  walk_at "u"
  have hk₁ := X.toInCall.keep
  have henv : newEnv F_law.fdt.scope s.heap.objs.size F_law.fdt.globals (cellsFrom (s.heap.objs.size + 1) F_law.fdt.scope.names []) (F_law.fdt.qualname ++ Str.ofString ".<locals>.") (some F_law.f) F_law.fdt.code none F_law.fdt.builtins = lawEnv s.heap.objs.size := by
    show newEnv (fS [108]) _ _ (cellsFrom (s.heap.objs.size + 1) (fS [108]).names []) _ _ _ _ _ = _
    rw [law_cells]; rfl
  have hcell : ∀ x a, (lawEnv s.heap.objs.size).cells.lookup x = some a → (lawEnv s.heap.objs.size).kindOf x = some .cell → h₁.IsCell a none := fun x a e e' => by
    have z := X.cell x a (by rw [henv]; exact e)
    rw [henv] at z
    have : bindC (lawEnv s.heap.objs.size).kindOf [(Str.ofString "script", v)] (fun _ => none) x = none := by
      unfold bindC bindC
      rw [if_pos (by kernel_rfl)]
    rw [this] at z; exact z
  have hns := X.toInCall.ns
  rw [henv] at hns ⊢
  obtain ⟨ow, ew, dw⟩ := hcell "world" (s.heap.objs.size + 1) (by kernel_rfl) (by kernel_rfl)
  obtain ⟨on, en, dn⟩ := hcell "names" (s.heap.objs.size + 2) (by kernel_rfl) (by kernel_rfl)
  obtain ⟨od, ed, dd⟩ := hcell "due" (s.heap.objs.size + 3) (by kernel_rfl) (by kernel_rfl)
  obtain ⟨oh, eh, dh⟩ := hcell "held" (s.heap.objs.size + 4) (by kernel_rfl) (by kernel_rfl)
  have above : ∀ i : Nat, 1 ≤ i → g.get? (s.heap.objs.size + i) = none := fun i hi => by
    cases q : g.get? (s.heap.objs.size + i) with
    | none => rfl
    | some o' => exact absurd (Heap.lt_size (P.keep _ _ q)) (nat_add_nlt _ _)
  have below : ∀ p ∈ muts, p.1 < s.heap.objs.size := fun p hp => Heap.lt_size (P.mu p hp).1
  refine h s.heap.objs.size ow on od oh _ dw dn dd dh ⟨G.Ok.fn (A := A) P.hA rfl P.hh ?_ ?_ rfl (by kernel_rfl) rfl rfl P.bs P.bf P.st, ⟨_, ⟨hns, fun b o e => hk₁ b o (P.keep b o e), P.size⟩, fun q hq => ?_⟩, fun q hq => ?_, ?_, rfl, rfl, rfl⟩
  · show A.depth + 1 < 600; omega
  · show A.units + 3 < 9000; omega
  · rw [List.mem_singleton.mp hq]
    unfold bindL bindL
    rw [if_pos (by kernel_rfl)]
    simp
  · rcases List.mem_cons.mp hq with rfl | hq
    · exact ⟨ew, nat_add_ne _ _ (by decide), above 1 (by decide)⟩
    rcases List.mem_cons.mp hq with rfl | hq
    · exact ⟨en, nat_add_ne _ _ (by decide), above 2 (by decide)⟩
    rcases List.mem_cons.mp hq with rfl | hq
    · exact ⟨ed, nat_add_ne _ _ (by decide), above 3 (by decide)⟩
    rcases List.mem_cons.mp hq with rfl | hq
    · exact ⟨eh, nat_add_ne _ _ (by decide), above 4 (by decide)⟩
    · exact ⟨hk₁ _ _ (P.mu q hq).1, Nat.ne_of_lt (below q hq), (P.mu q hq).2⟩
  · have hm : ∀ i, s.heap.objs.size + i ∉ muts.map (·.1) := fun i q => by
      obtain ⟨p, hp, e⟩ := List.mem_map.mp q
      exact absurd (e ▸ below p hp) (nat_add_nlt _ _)
    simp only [List.map_cons, List.nodup_cons, List.mem_cons, not_or]
    refine ⟨⟨?_, ?_, ?_, hm 1⟩, ⟨?_, ?_, hm 2⟩, ⟨?_, hm 3⟩, hm 4, P.nd⟩ <;> exact nat_add_ne2 _ _ _ (by decide)
section
variable {Γ : G} {l l' : List (Str × Value)} {news news' fz : List (Addr × Obj)} {s : Shared} {rest : List Stmt} {Q : Flow → Shared → Prop} {E : Value → Shared → Prop}
theorem st_cell {pre post : List (Addr × Obj)} {x : Str} {c : Addr} {oc : Obj} {v₀ : Option Value} {v : Value} {Q : Unit → Shared → Prop} {E : Value → Shared → Prop} (C : Cx Γ l (pre ++ (c, oc) :: post) s) (hd : oc.data = .cell v₀) (hx : Γ.env.kindOf x = some .cell) (hc : Γ.env.cells.lookup x = some c)
    (k : ∀ o' s', o'.data = .cell (some v) → Cx Γ l (pre ++ (c, o') :: post) s' → Q () s') : wpAny (model prg Γ.w) Γ.A (storeName Γ.env x v) Q E s :=
  wpAny_storeName_cell C.ok.kd hx hc ⟨oc, C.obj (List.mem_append_right _ (.head _)), hd⟩ fun h' hc' hs => by
    obtain ⟨o', e, hd'⟩ := hc'
    exact k o' _ hd' (C.step (n := s.toks) (fun b ob hb => hs.extBut b ob (fun q => hb (List.mem_singleton.mpr q))) e)
theorem exx_assign_cell {x : Str} {e : Expr} {p pos : Pos} {P : Value → List (Addr × Obj) → Prop} {may : Prop} (h : EvX Γ l news e P may) (hE : may → ∀ e s', Flies Γ e s' → E e s') (hx : Γ.env.kindOf x = some .cell)
    (k : ∀ v n, P v n → ∃ pre c oc v₀ post, n = pre ++ (c, oc) :: post ∧ oc.data = .cell v₀ ∧ Γ.env.cells.lookup x = some c ∧ ∀ o', o'.data = .cell (some v) → Ex Γ l (pre ++ (c, o') :: post) rest Q E)
    (hsw : swapsWith e (some (.Name x p)) pos.line Γ.env = pure false := by rfl) : Ex Γ l news (.Assign [.Name x p] e pos :: rest) Q E := fun s C =>
  wpAny_execs_cons (wpAny_Assign_Name (h s _ E C (fun v n s' hv C' => by
    walk_at "h"
    obtain ⟨pre, c, oc, v₀, post, rfl, hd, hc, k⟩ := k v n hv
    walk_at "u"
    exact st_cell C' hd hx hc fun o' s'' ho C'' => k o' ho s'' C'') hE) hsw)
theorem ex_swap2 {x y : Str} {px py tp pos : Pos} {kk : Nat} {e : Expr} {P : Value → Value → List (Addr × Obj) → Prop} {may : Prop}
    (h : EvX Γ l news e (fun v n => ∃ t a b, v = .ref t ∧ (∀ s, Cx Γ l n s → IsTup s.heap t #[a, b]) ∧ P a b n) may) (hE : may → ∀ e s', Flies Γ e s' → E e s')
    (hx : Γ.env.kindOf x = some .local) (hy : Γ.env.kindOf y = some .local) (hl : ∀ p ∈ l', p ∈ l) (hn : (l'.all fun p => !(p.1 == x)) = true) (hn2 : (l'.all fun p => !(p.1 == y)) = true) (hxy : (y == x) = false)
    (k : ∀ a b n, P a b n → Ex Γ ((x, a) :: (y, b) :: l') n rest Q E)
    (hs : swapsWithSole [.Tuple [.Name x px, .Name y py] kk tp] e pos.line Γ.env = pure false := by rfl) (hw : swappedStores [.Tuple [.Name x px, .Name y py] kk tp] e Γ.env = pure (some [x, y]) := by rfl) (hlo : Γ.env.locals = Γ.L := by rfl) :
    Ex Γ l news (.Assign [.Tuple [.Name x px, .Name y py] kk tp] e pos :: rest) Q E := fun s C =>
  wpAny_execs_cons (Assign_Tuple_swapped (names := [x, y]) (h s _ E C (fun v n s₁ hv C₁ => by
    walk_at "h"
    obtain ⟨t, a, b, rfl, ht, hP⟩ := hv
    walk_at "u"
    obtain ⟨m, F, hm⟩ := C₁.fr
    refine unpackItemsN_ (items := #[a, b]) F C₁.nw (ht s₁ C₁) C.ok.hh rfl fun h' F' N' => ?_
    have C₂ : Cx Γ l n { s₁ with heap := h' } := ⟨C₁.ok, ⟨m, F', hm⟩, N', C₁.nd, C₁.gens, C₁.drawn, C₁.os⟩
    show wpAny _ _ (assignInOrder [fun v => bindName Γ.env y v, fun v => bindName Γ.env x v] [b, a]) _ _ _
    refine assignInOrder_cons (bindName_ (st_local C₂ hy hl hn2 (fun s₃ C₃ => ?_) hlo))
    refine assignInOrder_cons (bindName_ (st_local C₃ hx (fun _ h => h) ?_ (fun s₄ C₄ => assignInOrder_nil (k a b n hP s₄ C₄)) hlo))
    rw [List.all_cons, hn, hxy]; rfl) hE) hs hw)
theorem ex_unpackC {x y : Str} {px py tp pos : Pos} {kk : Nat} {e : Expr} {P : Value → Value → List (Addr × Obj) → Prop} {may : Prop}
    (h : EvX Γ l news e (fun v n => ∃ t a b, v = .ref t ∧ (∀ s, Cx Γ l n s → IsTup s.heap t #[a, b]) ∧ P a b n) may) (hE : may → ∀ e s', Flies Γ e s' → E e s')
    (hx : Γ.env.kindOf x = some .local) (hy : Γ.env.kindOf y = some .cell) (hl : ∀ p ∈ l', p ∈ l) (hn : (l'.all fun p => !(p.1 == x)) = true)
    (k : ∀ a b n, P a b n → ∃ pre c oc v₀ post, n = pre ++ (c, oc) :: post ∧ oc.data = .cell v₀ ∧ Γ.env.cells.lookup y = some c ∧ ∀ o', o'.data = .cell (some b) → Ex Γ ((x, a) :: l') (pre ++ (c, o') :: post) rest Q E)
    (hs : swapsWithSole [.Tuple [.Name x px, .Name y py] kk tp] e pos.line Γ.env = pure false := by rfl) (hw : swappedStores [.Tuple [.Name x px, .Name y py] kk tp] e Γ.env = pure none := by rfl)
    (ha : (assignEach [.Name x px, .Name y py] Γ.env) = [(false, assign (.Name x px) Γ.env), (false, assign (.Name y py) Γ.env)] := by rfl) (hlo : Γ.env.locals = Γ.L := by rfl) :
    Ex Γ l news (.Assign [.Tuple [.Name x px, .Name y py] kk tp] e pos :: rest) Q E := fun s C =>
  wpAny_execs_cons (Assign_Tuple (h s _ E C (fun v n s₁ hv C₁ => by
    walk_at "h"
    obtain ⟨t, a, b, rfl, ht, hP⟩ := hv
    walk_at "u"
    obtain ⟨m, F, hm⟩ := C₁.fr
    refine unpackN_ F C₁.nw (ht s₁ C₁) C.ok.hh (by rw [ha]; rfl) (by rw [ha]; rfl) fun h' F' N' => ?_
    have C₂ : Cx Γ l n { s₁ with heap := h' } := ⟨C₁.ok, ⟨m, F', hm⟩, N', C₁.nd, C₁.gens, C₁.drawn, C₁.os⟩
    rw [ha]
    refine assignInOrder_cons (assign_Name (st_local C₂ hx hl hn (fun s₃ C₃ => ?_) hlo))
    walk_at "h"
    obtain ⟨pre, c, oc, v₀, post, rfl, hd, hc, k⟩ := k a b n hP
    walk_at "u"
    exact assignInOrder_cons (assign_Name (st_cell C₃ hd hy hc fun o' s₄ ho C₄ => assignInOrder_nil (k o' ho s₄ C₄)))) hE) hs hw)
theorem Cx.loose {s' : Shared} (C : Cx Γ l (news ++ fz) s) (Lo : Loose (gOf s news) (hideAll (gOf s news) [Γ.L]) (Γ.fe :: Γ.outer) s s') : Cx Γ l fz s' := by
  obtain ⟨m, F, hl⟩ := C.fr
  walk_at "h"
  obtain ⟨oL, es, ep, hL, hLd, r⟩ := F.ns
  walk_at "u"
  have C' := C.drop (List.sublist_append_left news fz)
  have hLg : (gOf s news).get? Γ.L = some oL := hideAll_get _ hL fun q => by
    obtain ⟨p, hp, e⟩ := List.mem_map.mp q
    exact (C'.nw p hp).2.1 e
  obtain ⟨sl, e⟩ := Lo.sl Γ.L oL hLg fun vs q => by rw [hLd] at q; cases q
  have keep : ∀ b o, b ≠ Γ.L → (gOf s news).get? b = some o → s'.heap.get? b = some o := fun b o hb h => Lo.bs b o (hideAll_get _ h (by simpa using hb))
  have nd := C.nd
  rw [List.map_append, List.nodup_append] at nd
  refine ⟨C.ok, ⟨m, ⟨⟨{ oL with slots := sl }, es, ep, e, hLd, r⟩, fun b o h => keep b o (fun q => ?_) (C'.g_le h), F.above⟩, hl⟩, fun p hp => ?_, nd.2.1, Lo.gens.trans C.gens, Lo.drawn.trans C.drawn, Lo.os.trans C.os⟩
  · rw [q] at h
    exact absurd (Heap.lt_size h) (Nat.not_lt.mpr F.above)
  · have z := C.nw p (List.mem_append_right _ hp)
    exact ⟨keep _ _ z.2.1 (C.frozen hp), z.2⟩
end
section
variable {Γ : G} {l l' : List (Str × Value)} {news news' fz : List (Addr × Obj)} {s : Shared} {rest : List Stmt} {Q : Flow → Shared → Prop} {E : Value → Shared → Prop}
theorem evx_ctk {fe : Expr} {F : FI} {e : Expr} {r : List Expr} {pos : Pos} {R : List Value → List (Addr × Obj) → Prop} {P' : Value → List (Addr × Obj) → Prop} (hk : (KL Γ.w.params).lookup F.f = some F.obj) (hf : Ev Γ l news fe (· = .ref F.f)) (ha : EvsN Γ l news pos (e :: r) R)
    (hc : ∀ vs n, R vs n → ∃ (M fz : List (Addr × Obj)) (facts : Heap → Prop) (P : Value → List (Addr × Obj) → Prop) (k : Nat), (n ++ news).Perm (M ++ fz) ∧ Ct Γ.w F.f vs facts M P False k ∧ Room Γ.A k ∧ (∀ g, (∀ b o, Γ.g.get? b = some o → g.get? b = some o) → Std fz g → facts g) ∧ ∀ v n₁, P v n₁ → ∃ m, (n₁ ++ fz).Perm m ∧ P' v m)
    (he : starEach (e :: r) Γ.env = (false, eval e Γ.env) :: starEach r Γ.env := by rfl)
    (hc' : eval (.Call fe (e :: r) [] pos) Γ.env = (do callWith pos (← eval fe Γ.env) [] (backTo pos (starEach (e :: r) Γ.env)) (backToKw pos (keywordEach [] Γ.env))) := by rfl) : EvX Γ l news (.Call fe (e :: r) [] pos) P' False := by
  have key : ∀ vs n, (∃ n₁, n = n₁ ++ news ∧ R vs n₁) → CallX Γ l n F.f vs (fun v n => ∃ m, n.Perm m ∧ P' v m) False := fun vs n hv => by
    obtain ⟨n₁, rfl, hR⟩ := hv
    walk_at "h"
    obtain ⟨M, fz, facts, P, k, h1, h2, h3, h4, h5⟩ := hc vs n₁ hR
    walk_at "u"
    refine CallX.perm (CallX.mono (Ct.use h2 h3 fun s C => h4 _ (fun b o e => (C.drop (List.sublist_append_left _ _)).g_le e) fun p hp => C.frozen hp) fun v n h => ?_) h1
    obtain ⟨n₂, rfl, hP⟩ := h
    exact h5 v n₂ hP
  refine EvX.perm (P := fun v n => ∃ m, n.Perm m ∧ P' v m) (fun s Q E C k hE => Call_ (hf s _ E C fun v s' hv C' => ?_) hc') fun v n h => h
  subst hv
  exact call_fnX (first := []) hk rfl ha C' (fun vs n s₂ hv C₂ => key vs n hv s₂ Q E C₂ k hE) hE he
theorem evx_ct {fe : Expr} {F : FI} {e : Expr} {r : List Expr} {pos : Pos} {R : List Value → List (Addr × Obj) → Prop} {P' : Value → List (Addr × Obj) → Prop} (G : F.Good) (hf : Ev Γ l news fe (· = .ref F.f)) (ha : EvsN Γ l news pos (e :: r) R)
    (hc : ∀ vs n, R vs n → ∃ (M fz : List (Addr × Obj)) (facts : Heap → Prop) (P : Value → List (Addr × Obj) → Prop) (k : Nat), (n ++ news).Perm (M ++ fz) ∧ Ct Γ.w F.f vs facts M P False k ∧ Room Γ.A k ∧ (∀ g, (∀ b o, Γ.g.get? b = some o → g.get? b = some o) → Std fz g → facts g) ∧ ∀ v n₁, P v n₁ → ∃ m, (n₁ ++ fz).Perm m ∧ P' v m)
    (he : starEach (e :: r) Γ.env = (false, eval e Γ.env) :: starEach r Γ.env := by rfl)
    (hc' : eval (.Call fe (e :: r) [] pos) Γ.env = (do callWith pos (← eval fe Γ.env) [] (backTo pos (starEach (e :: r) Γ.env)) (backToKw pos (keywordEach [] Γ.env))) := by rfl) : EvX Γ l news (.Call fe (e :: r) [] pos) P' False := evx_ctk (G.k _) hf ha hc he hc'
theorem evx_lambda {params : Arguments} {body : Expr} {scope : Scope} {pos : Pos} {c P : Addr} {ps : Array Value} {clos : List (Str × Addr)} {bm : Addr} {ob : Obj} {rs : List (Addr × Obj)} (hdef : defaultsOf params Γ.env = ([], [])) (hcl : closureFor scope Γ.env = pure clos) (hcode : Γ.env.code = .ref c)
    (hC : CodeHd Γ.g c P) (ht : TriplesOk ps.toList) (hnf : codeAmong pos ps.toList = none) (hgP : mainGlobals ≠ P) (hb : nsIn (KL Γ.w.params) mainGlobals "__builtins__" = some (some (.ref bm))) (hb1 : bm ≠ builtinsNs) (hb2 : bm ≠ mainGlobals) (hb3 : bm ≠ P) (hbo : Γ.g.get? bm = some ob) (hb4 : ob.cls = .type "module") (hb5 : ob.dict = some builtinsNs) (hb6 : ob.data = .plain) :
    EvX Γ l ((P, tabObj ps) :: rs) (.Lambda params body scope pos) (fun v n => ∃ f c' oc pm ctv vs t, v = .ref f ∧ n = (f, kla_obj "<lambda>" (Γ.env.qual ++ "<lambda>") params body scope clos pm c' ctv) :: (c', oc) :: (P, tabObj (ps ++ #[rawInt pos.line, rawInt pos.col, .ref c'])) :: rs ∧ oc.data = .fields vs ∧ vs[1]? = some (.str (Γ.env.qual ++ "<lambda>") t)) False := fun s Q E C k _ => by
  obtain ⟨m, F, hm⟩ := C.fr
  have hP := C.obj (.head _)
  have hPL := (C.nw _ (.head _)).2.1
  refine kla_eval hdef (kla_makeFunction (mg := s.heap.nsMap mainGlobals) hcl C.ok.gl C.stands.gl hcode (hC.keeps fun b o => C.keep) hP ht hnf hgP ⟨bm, ob, C.glv hb, hb1, hb2, hb3, C.keep hbo, hb4, hb5, hb6⟩ fun c' ctv h' tk hx hge hlt hrec htb => ?_)
  walk_at "h"
  obtain ⟨c₂, oc, vs, t, e2, hoc, hd, hv⟩ := hrec
  walk_at "u"
  cases e2
  have hlow : ∀ p ∈ (P, tabObj ps) :: rs, p.1 < s.heap.objs.size := fun p hp => Heap.lt_size (C.obj hp)
  refine k _ _ _ ⟨h'.objs.size, c', oc, ((s.heap.nsMap mainGlobals "__name__").getD .none), ctv, vs, t, rfl, rfl, hd, hv⟩ ?_
  refine C.redo (fun b o hb e => Heap.get?_push_of_some _ (hx b o (fun q => hb (by rw [q]; exact .head _)) e)) (fun p hp => ?_) ?_
  · rcases List.mem_cons.mp hp with rfl | hp
    · exact ⟨Heap.get?_push_size _ rfl, .inr (Heap.get?_none_of_le (Nat.le_of_lt (Nat.lt_of_le_of_lt hge hlt)))⟩
    rcases List.mem_cons.mp hp with rfl | hp
    · exact ⟨Heap.get?_push_of_some _ hoc, .inr (Heap.get?_none_of_le hge)⟩
    rcases List.mem_cons.mp hp with rfl | hp
    · exact ⟨Heap.get?_push_of_some _ htb, .inl (.head _)⟩
    · have nd := C.nd
      rw [List.map_cons, List.nodup_cons] at nd
      exact ⟨Heap.get?_push_of_some _ (hx _ _ (fun q => by have z := List.mem_map_of_mem (f := (·.1)) hp; rw [q] at z; exact nd.1 z) (C.obj (.tail _ hp))), .inl (List.mem_map_of_mem (.tail _ hp))⟩
  · have low : ∀ x ∈ ((P, tabObj ps) :: rs).map (·.1), x < s.heap.objs.size := fun x hx => by
      obtain ⟨p, hp, rfl⟩ := List.mem_map.mp hx
      exact hlow p hp
    have nd := C.nd
    simp only [List.map_cons, List.nodup_cons, List.mem_cons, not_or] at nd low ⊢
    refine ⟨⟨Nat.ne_of_gt hlt, fun q => ?_, fun q => ?_⟩, ⟨fun q => ?_, fun q => ?_⟩, nd⟩
    · exact absurd (low _ (.inl q)) (Nat.not_lt.mpr (Nat.le_of_lt (Nat.lt_of_le_of_lt hge hlt)))
    · exact absurd (low _ (.inr q)) (Nat.not_lt.mpr (Nat.le_of_lt (Nat.lt_of_le_of_lt hge hlt)))
    · exact absurd (low _ (.inl q)) (Nat.not_lt.mpr hge)
    · exact absurd (low _ (.inr q)) (Nat.not_lt.mpr hge)
theorem evx_all {fe e : Expr} {pos : Pos} {P : List Bool → List (Addr × Obj) → Prop} {may : Prop} (hf : Ev Γ l news fe (· = .builtin "all")) (he : EvX Γ l news e (fun v n => ∃ D vs bs, v = .ref D ∧ (∀ s, Cx Γ l n s → s.heap.IsList D vs.toArray) ∧ LSm.BoolsAre vs bs ∧ P bs n) may)
    (hst : starEach (e :: []) Γ.env = (false, eval e Γ.env) :: starEach [] Γ.env := by rfl)
    (hc' : eval (.Call fe [e] [] pos) Γ.env = (do callWith pos (← eval fe Γ.env) [] (backTo pos (starEach [e] Γ.env)) (backToKw pos (keywordEach [] Γ.env))) := by rfl) : EvX Γ l news (.Call fe [e] [] pos) (fun v n => ∃ bs, v = .bool (bs.all id) ∧ P bs n) may := fun s Q E C k hE =>
  Call_ (hf s _ E C fun v s' hv C' => by
    subst hv
    refine callWith_builtin1 (spliced_more (he s' _ E C' (fun v n s₂ hv C₂ => spliced_none ?_) hE) hst) hst (by rfl)
    walk_at "h"
    obtain ⟨D, vs, bs, rfl, hl, hb, hP⟩ := hv
    walk_at "u"
    obtain ⟨m, F, hm⟩ := C₂.fr
    exact LSm.all_bools F C₂.nw C₂.ok.hh (hl s₂ C₂) hb fun h' tk F' N' => k _ _ _ ⟨bs, rfl, hP⟩ ⟨C₂.ok, ⟨m, F', hm⟩, N', C₂.nd, C₂.gens, C₂.drawn, C₂.os⟩) hc'
theorem evn_bytes {fe e : Expr} {pos : Pos} {P : List Int → List (Addr × Obj) → Prop} (hf : Ev Γ l news fe (· = .type "bytes")) (he : EvN Γ l news e (fun v n => ∃ D vs ns, v = .ref D ∧ (∀ s, Cx Γ l (n ++ news) s → s.heap.IsList D vs.toArray) ∧ IntsAre vs ns ∧ (∀ x ∈ ns, 0 ≤ x ∧ x < 256) ∧ vs.length ≤ 1000 ∧ P ns n))
    (hst : starEach (e :: []) Γ.env = (false, eval e Γ.env) :: starEach [] Γ.env := by rfl)
    (hc' : eval (.Call fe [e] [] pos) Γ.env = (do callWith pos (← eval fe Γ.env) [] (backTo pos (starEach [e] Γ.env)) (backToKw pos (keywordEach [] Γ.env))) := by rfl) : EvN Γ l news (.Call fe [e] [] pos) (fun v n => ∃ ns t, v = .bytes (byteArr ns) t ∧ P ns n) := fun s Q E C k hE =>
  Call_ (hf s _ E C fun v s' hv C' => by
    subst hv
    refine PyProof.Rows.callWith_type1 (spliced_more (he s' _ E C' (fun v n s₂ hv C₂ => spliced_none ?_) hE) hst) hst (by rfl)
    walk_at "h"
    obtain ⟨n₁, rfl, D, vs, ns, rfl, hl, hi, hr, hz, hP⟩ := hv
    walk_at "u"
    obtain ⟨m, F, hm⟩ := C₂.fr
    exact call_bytes_ints (hl s₂ C₂) hi hr (Nat.le_trans hz (by decide)) C₂.ok.hh fun h' t tk hk => k _ _ _ ⟨n₁, rfl, ns, t, rfl, hP⟩ ⟨C₂.ok, ⟨m, F.keeps hk, hm⟩, C₂.nw.grown hk, C₂.nd, C₂.gens, C₂.drawn, C₂.os⟩) hc'
end
section
variable {Γ : G} {l : List (Str × Value)} {D : PD} {V : PV} {W : WorldD} {hl : Nat → Addr} {nm : Str → Option Nat} {ab : List Nat} {n : Nat} {fz : List (Addr × Obj)}
theorem let_call {r : Addr} {ops : List (Option Str)} (ho : Γ.outer = []) (hc : ∀ c, some c ∈ ops → c.length ≤ 100) (hsz : V.ms.length + oc n ops + cost n ≤ 90000 ∧ V.cs.length + oc n ops + cost n ≤ 90000) (rm : Room Γ.A (16 + 5 * n))
    (hf : ∀ g, (∀ b o, Γ.g.get? b = some o → g.get? b = some o) → Std fz g → PaintF Γ.w g W D V hl nm ab n (OpnF Γ.w hl W D.op) ∧ RowsAt g r ops) :
    CallX Γ l (core Γ.w.params D V ++ fz) F_law_is_let.f [.ref D.pa, .ref r] (fun v m => (v = .bool true ∧ ∃ n', PostM Γ.w.params D V (walks (paints fun c => walk W n c nm ab) ops) .none n' ∧ m = n' ++ fz) ∨ (v = .bool false ∧ walks (paints fun c => walk W n c nm ab) ops = none ∧ m = fz)) False := fun s Q E C k _ => by
  have C' := C.drop (List.sublist_append_left (core Γ.w.params D V) fz)
  obtain ⟨m, F, hm⟩ := C.fr
  walk_at "h"
  obtain ⟨oL, es, ep, hL, hLd, hLk, hLf⟩ := F.ns
  walk_at "u"
  have P := C'.pre
  obtain ⟨f1, f2⟩ := hf (gOf s (core Γ.w.params D V)) (fun b o e => C'.g_le e) fun p hp => C.frozen hp
  have hLg : (gOf s (core Γ.w.params D V)).get? Γ.L = some oL := hideAll_get _ hL fun q => by
    obtain ⟨p, hp, e⟩ := List.mem_map.mp q
    exact (C'.nw p hp).2.1 e
  have hbase : ∀ b o, Γ.g.get? b = some o → (hideAll (gOf s (core Γ.w.params D V)) [Γ.L]).get? b = some o := fun b o e => hideAll_get _ (C'.g_le e) fun q => by
    rw [List.mem_singleton.mp q] at e
    exact absurd (Heap.lt_size e) (Nat.not_lt.mpr F.above)
  have Pr : Pre Γ.w Γ.A (Γ.fe :: Γ.outer) (hideAll (gOf s (core Γ.w.params D V)) [Γ.L]) (gOf s (core Γ.w.params D V)) (core Γ.w.params D V) s := by
    refine ⟨P.hA, P.hh, fun b o e => of_hideAll _ e, ?_, P.st, P.keep, P.size, P.mu, P.nd⟩
    rw [ho]
    exact .cons (by rw [C.ok.kf]; decide) C.ok.fr ⟨oL, es, ep, hLg, hLd, hLk, hLf⟩ (hideAll_none _ (.head _)) trivial
  refine law_is_let hc hsz Γ.A (Γ.fe :: Γ.outer) _ _ s Q E Pr (fun b o e => hbase b o (C.ok.st b o e)) rm f1 f2 (fun n' s' hP B => ?_) fun hw s' Lo => ?_
  · exact k _ _ _ (.inl ⟨rfl, n', hP, rfl⟩) (C.afterF B)
  · exact k _ _ _ (.inr ⟨rfl, hw, rfl⟩) (C.loose Lo)
end
noncomputable abbrev tupO (vs : List Value) : Obj := { cls := .type "tuple", data := .seq vs.toArray }
structure Rec where
  gen : Nat
  own : Option (List (Str × Nat))
  wishes : List Str
noncomputable def Rec.F (r : Rec) : FormD := ⟨((r.gen : Nat) : Int), r.own.map nmF, r.wishes⟩
def RecP (count : Nat) (r : Rec) : Prop := r.wishes.length ≤ 2 ∧ (∀ c ∈ r.wishes, Letter c) ∧ ∀ nl, r.own = some nl → NmL count nl
def RecE (w : World) (g : Heap) (tp : Addr) (r : Rec) : Prop := ∃ t ov wl ys, IsTup g tp #[.int ((r.gen : Nat) : Int) t, ov, .ref wl] ∧ g.IsList wl ys.toArray ∧ AllR (fun y c => IsS c y) ys r.wishes ∧
  match r.own with
  | none => ov = .none
  | some nl => ∃ na kvs, ov = .ref na ∧ SD w (PySem.strKind prg w) g na kvs ∧ AllR KvR kvs nl
structure Wl (count i : Nat) (wkvs : List (Int × Value)) (rl : List (Nat × Rec)) : Prop where
  ks : wkvs.map (·.1) = rl.map fun x => ((x.1 : Nat) : Int)
  rs : rl.map (·.1) = List.range' 1 i
  ok : ∀ x ∈ rl, RecP count x.2
def OwnM (w : World) (count : Nat) (v : Value) (no : List (Addr × Obj)) : Option (List (Str × Nat)) → Prop
  | none => v = .none ∧ no = []
  | some nl => ∃ na o, v = .ref na ∧ no = [(na, o)] ∧ (na == sysModules) = false ∧ NmO w o nl ∧ NmL count nl
def WlF (w : World) (g : Heap) (wkvs : List (Int × Value)) (rl : List (Nat × Rec)) : Prop := AllR (fun kv x => kv.1 = ((x.1 : Nat) : Int) ∧ ∃ tp, kv.2 = .ref tp ∧ RecE w g tp x.2) wkvs rl
noncomputable abbrev lawG (w : World) (A : Around) (s₀ : Shared) (g : Heap) (L : Addr) (outer : List Env) (base : Heap) : G := ⟨w, A.deeper (lawEnv L), s₀, g, L, outer, base, lawEnv L⟩
section
variable {Γ : G} {l l' : List (Str × Value)} {news news' fz : List (Addr × Obj)} {s : Shared} {rest : List Stmt} {Q : Flow → Shared → Prop} {E : Value → Shared → Prop}
theorem evx_tupX {es : List Expr} {kk : Nat} {pos : Pos} {R : List Value → List (Addr × Obj) → Prop} {may : Prop} (h : EvsX Γ l news pos es R may) (hn : ∀ vs n, R vs n → vs.length ≤ 1000) :
    EvX Γ l news (.Tuple es kk pos) (fun v n => ∃ vs a n₁, R vs n₁ ∧ v = .ref a ∧ n = (a, tupO vs) :: n₁) may := fun s Q E C k hE =>
  Tuple_ (h s _ E C (fun vs n s₁ hv C₁ => new_tuple C₁ (fun a s₂ C₂ => k _ _ _ ⟨vs, a, n, hv, rfl, rfl⟩ C₂) (hn vs n hv)) hE)
theorem EvsX.mono {pos : Pos} {es : List Expr} {P P' : List Value → List (Addr × Obj) → Prop} {may : Prop} (h : EvsX Γ l news pos es P may) (k : ∀ v n, P v n → P' v n) : EvsX Γ l news pos es P' may := fun s Q E C q hE => h s Q E C (fun v n s' hv C' => q v n s' (k v n hv) C') hE
end
section
variable {w : World} {A : Around} {s₀ : Shared} {g base : Heap} {L : Addr} {outer : List Env} {Q : Flow → Shared → Prop}
theorem take_x {l : List (Str × Value)} {R : List (Addr × Obj)} {so ca : Addr} {oS : Obj} {place lim : Nat} {x : Int} {p1 p2 p3 p4 : Pos} {i : Nat} (rm : Room (A.deeper (lawEnv L)) 10) (hR : ∀ g', Std R g' → SrcF g' ca) (hS : SrcO ca place oS) (hp : place ≤ 90000) (hl : 0 < lim ∧ lim ≤ 100) (hm : (Str.ofString "source", Value.ref so) ∈ l) (hx : x = ((lim : Nat) : Int)) :
    EvX (lawG w A s₀ g L outer base) l ((so, oS) :: R) (.Call (.Name "_law_take" p1) [.Name "source" p2, .Constant (.int x) i p3] [] p4) (fun v n => ∃ j : Nat, IsI ((j : Nat) : Int) v ∧ j < lim ∧ ∃ o', n = (so, o') :: R ∧ SrcO ca (place + 1) o') False := by
  refine evx_ct G_law_take (ev_glob (g_law_take _)) (evsn_cons (evn_of (ev_name (v := .ref so) hm)) fun _ _ _ => evsn_cons (evn_of (ev_int (x := x))) fun _ _ _ => evsn_nil) (hide2 fun _ u9 vs n hv => ?_)
  obtain ⟨_, _, _, _, ⟨rfl, rfl⟩, ⟨_, _, _, _, ⟨⟨t, rfl⟩, rfl⟩, ⟨rfl, rfl⟩, rfl, rfl⟩, rfl, rfl⟩ := hv
  refine u9 _ _ ?_; clear u9
  subst hx
  exact ⟨[(so, oS)], R, _, _, 1, by walk_at "perm", take_law (lim := lim) (by omega) ⟨hl.1, by omega⟩ hS, rm.le (by decide), fun g' _ h => hR g' h, fun v n₁ ⟨j, h1, h2, o', e, h3⟩ => ⟨_, .refl _, j, h1, h2, o', by rw [e]; rfl, h3⟩⟩
theorem names_x {l : List (Str × Value)} {R : List (Addr × Obj)} {so ca : Addr} {oS : Obj} {place count : Nat} {tc : Tok} {p1 p2 p3 p4 : Pos} (rm : Room (A.deeper (lawEnv L)) 10) (hR : ∀ g', Std R g' → SrcF g' ca) (hS : SrcO ca place oS) (hp : place ≤ 90000) (hl : count ≤ 100) (hm : (Str.ofString "source", Value.ref so) ∈ l) (hm2 : (Str.ofString "count", Value.int ((count : Nat) : Int) tc) ∈ l) :
    EvX (lawG w A s₀ g L outer base) l ((so, oS) :: R) (.Call (.Name "_law_names" p1) [.Name "source" p2, .Name "count" p3] [] p4) (fun v n => ∃ d o nl oS', v = .ref d ∧ n = (so, oS') :: (d, o) :: R ∧ (d == sysModules) = false ∧ NmO w o nl ∧ NmL count nl ∧ SrcO ca (place + 2) oS') False := by
  refine evx_ct G_law_names (ev_glob (g_law_names _)) (evsn_cons (evn_of (ev_name (v := .ref so) hm)) fun _ _ _ => evsn_cons (evn_of (ev_name (v := .int ((count : Nat) : Int) tc) hm2)) fun _ _ _ => evsn_nil) (hide2 fun _ u9 vs n hv => ?_)
  obtain ⟨_, _, _, _, ⟨rfl, rfl⟩, ⟨_, _, _, _, ⟨rfl, rfl⟩, ⟨rfl, rfl⟩, rfl, rfl⟩, rfl, rfl⟩ := hv
  refine u9 _ _ ?_; clear u9
  exact ⟨[(so, oS)], R, _, _, 2, by walk_at "perm", law_names (by omega) hl hS, rm.le (by decide), fun g' _ h => hR g' h, fun v n₁ ⟨d, o, nl, oS', e1, e2, h3, h4, h5, h6⟩ => ⟨_, .refl _, d, o, nl, oS', e1, by rw [e2]; rfl, h3, h4, h5, h6⟩⟩
theorem law_loop1 {so ca wa : Addr} {oS owd cw : Obj} {sv : Value} {tc : Tok} {count place : Nat} {Y : List (Addr × Obj)} (rm : Room (A.deeper (lawEnv L)) 10) (hc : 1 ≤ count ∧ count ≤ 10) (hY : ∀ g', Std Y g' → SrcF g' ca) (hcw : (L + 1, cw) ∈ Y) (hcd : cw.data = .cell (some (.ref wa))) (hS : SrcO ca place oS) (hp : place ≤ 1)
    (hwd : owd.IsDictOf (PySem.intKind prg w) ([] : List (Int × Value)))
    (k : ∀ oS' owd' Z rl wkvs place', place' ≤ 71 → SrcO ca place' oS' → owd'.IsDictOf (PySem.intKind prg w) wkvs → Wl count count wkvs rl → (∀ g', Std Z g' → WlF w g' wkvs rl) →
      Ex (lawG w A s₀ g L outer base) [(Str.ofString "count", .int ((count : Nat) : Int) tc), (Str.ofString "source", .ref so), (Str.ofString "script", sv)] ((so, oS') :: (wa, owd') :: (Y ++ Z)) ((fB [108]).drop 4) Q (fun e s' => False ∧ Flies (lawG w A s₀ g L outer base) e s')) :
    Ex (lawG w A s₀ g L outer base) [(Str.ofString "count", .int ((count : Nat) : Int) tc), (Str.ofString "source", .ref so), (Str.ofString "script", sv)] ((so, oS) :: (wa, owd) :: Y) ((fB [108]).drop 3) Q (fun e s' => False ∧ Flies (lawG w A s₀ g L outer base) e s') := by
  conv => { arg 4; whnf }
  refine ex_forW (own := []) (N := count) (P := fun i v => IsI (1 + ((i : Nat) : Int)) v) (may := False) (fun i l n => l = [(Str.ofString "count", .int ((count : Nat) : Int) tc), (Str.ofString "source", .ref so), (Str.ofString "script", sv)] ∧
      ∃ oS owd Z rl wkvs place, n = (so, oS) :: (wa, owd) :: (Y ++ Z) ∧ place ≤ 1 + 7 * i ∧ SrcO ca place oS ∧ owd.IsDictOf (PySem.intKind prg w) wkvs ∧ Wl count i wkvs rl ∧ ∀ g', Std Z g' → WlF w g' wkvs rl)
    (makesW_range (b := 1 + ((count : Nat) : Int)) (fun s Q E C k => ev_range2 (ev_bltn (b_range _) (b_range' _)) (ev_int (x := 1)) (Run.mono (ev_add (ev_nameP (P := IsI ((count : Nat) : Int)) (by walk_at "mem") ⟨_, rfl⟩) (ev_int (x := 1))) fun v hv => by rw [Int.add_comm]; exact hv) s Q E C k)
      (by unfold Builtin.Range.rangeSize; simp; omega) ?sm)
    ⟨rfl, oS, owd, [], [], [], place, by simp, by omega, hS, hwd, ⟨rfl, rfl, fun x hx => nomatch hx⟩, fun _ _ => trivial⟩ (by kernel_rfl) (fun i l n h => by rw [h.1]; kernel_rfl) (fun _ _ _ _ p hp => nomatch hp) ?turn ?fin
  case sm =>
    unfold Builtin.Range.small
    have : Builtin.Range.rangeSize 1 (1 + ((count : Nat) : Int)) 1 = ((count : Nat) : Int) := by unfold Builtin.Range.rangeSize; simp; omega
    rw [this, if_pos (by decide), fits_long 1 (by omega) (by omega), fits_long (1 + ((count : Nat) : Int)) (by omega) (by omega), fits_long (1 + ((count : Nat) : Int) + (1 - 1)) (by omega) (by omega)]
    simpa using fits_long ((count : Nat) : Int) (by omega) (by omega)
  case fin =>
    refine hide2 fun _ u9 => ?_
    rintro l n ⟨rfl, oS, owd, Z, rl, wkvs, place, rfl, h1, h2, h3, h4, h5⟩
    refine u9 _ _ ?_; clear u9
    exact k oS owd Z rl wkvs place (by omega) h2 h3 h4 h5
  case turn =>
    refine hideT fun _ u9 => ?_
    rintro i v l n t hi ⟨tv, rfl⟩ ⟨rfl, oS, owd, Z, rl, wkvs, place, rfl, h1, h2, h3, h4, h5⟩
    refine u9 _ _ _ _ _ ?_; clear u9
    have hR : ∀ {X : List (Addr × Obj)} g', Std (X ++ (Y ++ (Z ++ t))) g' → SrcF g' ca := fun g' h => hY g' h.right.left
    have hR0 : ∀ g', Std ((wa, owd) :: (Y ++ (Z ++ t))) g' → SrcF g' ca := fun g' h => hR (X := [(wa, owd)]) g' h
    show Ex _ _ ((so, oS) :: (wa, owd) :: (Y ++ Z ++ t)) _ _ _
    rw [List.append_assoc]
    refine ex_swap2 (l' := [(Str.ofString "number", .int (1 + ((i : Nat) : Int)) tv), (Str.ofString "count", .int ((count : Nat) : Int) tc), (Str.ofString "source", .ref so), (Str.ofString "script", sv)])
      (P := fun a b n => ∃ (j : Nat) (has : Bool) (oS' : Obj) (p : Addr × Obj), IsI ((j : Nat) : Int) a ∧ b = .bool has ∧ n = p :: (so, oS') :: (wa, owd) :: (Y ++ (Z ++ t)) ∧ SrcO ca (place + 2) oS') (may := False)
      (EvX.mono (evx_tupX (evsx_cons (R := fun _ _ u m => ∃ has oS'', u = [Value.bool has] ∧ m = (so, oS'') :: (wa, owd) :: (Y ++ (Z ++ t)) ∧ SrcO ca (place + 2) oS'') (take_x (lim := 2) rm hR0 h2 (by omega) (by decide) (by walk_at "mem") (by rfl)) (hide2 fun _ u9 v n hv => ?q1)) ?sz) ?post) (fun h => h.elim) (by kernel_rfl) (by kernel_rfl) (by walk_at "sub") (by kernel_rfl) (by kernel_rfl) (by kernel_rfl) fun a b n hP => ?_
    case q1 =>
      obtain ⟨j, -, -, o', rfl, hS'⟩ := hv
      refine u9 _ _ ?_; clear u9
      refine EvsX.mono (evsx_cons (R := fun _ m u m' => u = [] ∧ m' = m) (evx_gtI (y := 0) (R := fun x n => ∃ oS'', n = (so, oS'') :: (wa, owd) :: (Y ++ (Z ++ t)) ∧ SrcO ca (place + 2) oS'') (EvX.mono (take_x (lim := 3) rm hR0 hS' (by omega) (by decide) (by walk_at "mem") (by rfl)) fun v n h => by
        obtain ⟨j, h1, -, o', h3, h4⟩ := h
        exact ⟨_, h1, o', h3, h4⟩) (fun n => ev_int)) (fun v n h => evsx_of (R := (· = [])) evs_nil)) (hide2 fun _ u9 vs n hv => ?_)
      obtain ⟨v, n₁, u, ⟨x, rfl, oS'', rfl, h3⟩, ⟨rfl, rfl⟩, rfl⟩ := hv
      refine u9 _ _ ?_; clear u9
      exact ⟨_, oS'', rfl, rfl, h3⟩
    case sz =>
      refine hide2 fun _ u9 => ?_
      rintro vs n ⟨v, n₁, u, -, ⟨_, _, rfl, -, -⟩, rfl⟩
      refine u9 _ _ ?_; clear u9
      simp
    case post =>
      refine hide2 fun _ u9 => ?_
      rintro v n ⟨vs, a, n₁, ⟨v₁, n₂, u, ⟨j, hj, -, -⟩, ⟨has, oS'', rfl, rfl, h3⟩, rfl⟩, rfl, rfl⟩
      refine u9 _ _ ?_; clear u9
      exact ⟨a, v₁, _, rfl, fun s C => ⟨_, C.obj (.head _), rfl, _, rfl⟩, j, has, oS'', _, hj, rfl, rfl, h3⟩
    walk_at "h"
    obtain ⟨j, has, oS', tp0, ⟨tj, rfl⟩, rfl, rfl, hS'⟩ := hP
    walk_at "u"
    refine Ex.drop ?_ (List.sublist_cons_self _ _)
    obtain ⟨lim, hlim⟩ : ∃ lim, lim = if i = 0 then 3 else 2 := ⟨_, rfl⟩
    refine exx_assign (P := fun v n => ∃ D ys ws oS', v = .ref D ∧ n = (so, oS') :: (D, lstO ys) :: (wa, owd) :: (Y ++ (Z ++ t)) ∧ AllR (fun y c => IsS c y) ys ws ∧ (∀ c ∈ ws, Letter c) ∧ ws.length ≤ 2 ∧ SrcO ca (place + 3 + ws.length) oS') (may := False)
      (evx_ctk (F := F_law_wishes) (k929 _) (ev_glob (g_law_wishes _)) (evsn_cons (evn_of (by walk_at "nm" : Ev _ _ _ _ (· = Value.ref so))) fun _ _ _ => evsn_cons (evn_of (P := IsI ((lim : Nat) : Int)) ?ifx) fun _ _ _ => evsn_cons (evn_of (ev_int (x := 0))) fun _ _ _ => evsn_nil) (hide2 fun _ u9 vs n hv => ?cw)) (fun h => h.elim) (by kernel_rfl) (by walk_at "sub") (by kernel_rfl) (hide2 fun _ u9 v n hv => ?_)
    case ifx =>
      by_cases h0 : i = 0
      · rw [hlim, if_pos h0]
        exact ev_if_t (ist_cmp (ev_nameP (P := IsI (1 + ((i : Nat) : Int))) (by walk_at "mem") ⟨_, rfl⟩) (ev_int (x := 1)) (cmp_int (by subst h0; rfl))) ev_int
      · rw [hlim, if_neg h0]
        exact ev_if_f (ist_cmp (ev_nameP (P := IsI (1 + ((i : Nat) : Int))) (by walk_at "mem") ⟨_, rfl⟩) (ev_int (x := 1)) (cmp_int (by
          have : (1 + ((i : Nat) : Int) == 1) = false := by rw [beq_eq_false_iff_ne]; omega
          simp only [icmp, this]))) ev_int
    case cw =>
      obtain ⟨_, _, _, _, ⟨rfl, rfl⟩, ⟨_, _, _, _, ⟨⟨t1, rfl⟩, rfl⟩, ⟨_, _, _, _, ⟨⟨t2, rfl⟩, rfl⟩, ⟨rfl, rfl⟩, rfl, rfl⟩, rfl, rfl⟩, rfl, rfl⟩ := hv
      refine u9 _ _ ?_; clear u9
      have hl2 : 0 < lim ∧ lim ≤ 3 := by rw [hlim]; split <;> omega
      refine ⟨[(so, oS')], (wa, owd) :: (Y ++ (Z ++ t)), _, _, 3, by walk_at "perm", law_wishes (lim := lim) (few := 0) (by omega) ⟨hl2.1, by omega⟩ (by decide) hS', rm.le (by decide), fun g' _ h => hR0 g' h, fun v n₁ h => ?_⟩
      walk_at "h"
      obtain ⟨D, ys, ws, oS'', e1, rfl, h3, h4, -, h5, h6⟩ := h
      walk_at "u"
      exact ⟨_, .refl _, D, ys, ws, oS'', e1, rfl, h3, h4, by omega, h6⟩
    obtain ⟨D, ys, ws, oS2, rfl, rfl, w1, w2, w3, w4⟩ := hv
    refine u9 _ _ ?_; clear u9
    have hR2 : ∀ g', Std ((D, lstO ys) :: (wa, owd) :: (Y ++ (Z ++ t))) g' → SrcF g' ca := fun g' h => hR (X := [(D, lstO ys), (wa, owd)]) g' h
    refine exx_setdict (knd := PySem.intKind prg w) (kvs := wkvs) (R := fun _ _ _ _ _ _ => True) (P := fun v n => ∃ tp ov no oS3 pl own, v = .ref tp ∧ n = (tp, tupO [.int ((j : Nat) : Int) tj, ov, .ref D]) :: (so, oS3) :: (no ++ ((D, lstO ys) :: (wa, owd) :: (Y ++ (Z ++ t)))) ∧ pl ≤ place + 7 ∧ SrcO ca pl oS3 ∧ OwnM w count ov no own) (may := False)
      (EvX.mono (evx_tupX (evsx_cons (R := fun v m u m' => ∃ ov no oS3 pl own, u = [ov, .ref D] ∧ m' = (so, oS3) :: (no ++ ((D, lstO ys) :: (wa, owd) :: (Y ++ (Z ++ t)))) ∧ pl ≤ place + 7 ∧ SrcO ca pl oS3 ∧ OwnM w count ov no own) (evx_of (by walk_at "nm" : Ev _ _ _ _ (· = Value.int ((j : Nat) : Int) tj))) (hide2 fun _ u9 v n hv => ?q2)) ?sz2) ?post2) (fun h => h.elim) (hide2 fun _ u9 v n hv => ?_)
    case q2 =>
      obtain ⟨rfl, rfl⟩ := hv
      refine u9 _ _ ?_; clear u9
      refine EvsX.mono (evsx_cons (P := fun ov m => ∃ no oS3 pl own, m = (so, oS3) :: (no ++ ((D, lstO ys) :: (wa, owd) :: (Y ++ (Z ++ t)))) ∧ pl ≤ place + 7 ∧ SrcO ca pl oS3 ∧ OwnM w count ov no own) (R := fun _ m u m' => u = [.ref D] ∧ m' = m) ?ife fun v n h => EvsX.mono (evsx_of (evs_cons (by walk_at "nm" : Ev _ _ _ _ (· = Value.ref D)) evs_nil)) fun vs n h => ?_) fun vs n hv => ?_
      case ife =>
        cases has with
        | true =>
          refine evx_if_t (ist_bool (by walk_at "nm" : Ev _ _ _ _ (· = Value.bool true))) (EvX.mono (names_x (count := count) rm hR2 w4 (by omega) (by omega) (by walk_at "mem") (by walk_at "mem")) fun v n h => ?_)
          walk_at "h"
          obtain ⟨d, o, nl, oS3, rfl, rfl, h6, h7, h8, h9⟩ := h
          walk_at "u"
          exact ⟨[(d, o)], oS3, _, some nl, rfl, by omega, h9, d, o, rfl, rfl, h6, h7, h8⟩
        | false =>
          refine evx_if_f (ist_bool (by walk_at "nm" : Ev _ _ _ _ (· = Value.bool false))) (EvX.mono (evx_of ev_none) fun v n h => ?_)
          obtain ⟨rfl, rfl⟩ := h
          exact ⟨[], oS2, _, none, rfl, by omega, w4, rfl, rfl⟩
      · walk_at "h"
        obtain ⟨⟨v, rfl, u, rfl, rfl⟩, rfl⟩ := h
        walk_at "u"
        exact ⟨rfl, rfl⟩
      · walk_at "h"
        obtain ⟨v, n₁, u, ⟨no, oS3, pl, own, rfl, h2, h3, h4⟩, ⟨rfl, rfl⟩, rfl⟩ := hv
        walk_at "u"
        exact ⟨_, no, oS3, pl, own, rfl, rfl, h2, h3, h4⟩
    case sz2 =>
      refine hide2 fun _ u9 => ?_
      rintro vs n ⟨v, n₁, u, -, ⟨_, _, _, _, _, rfl, -⟩, rfl⟩
      refine u9 _ _ ?_; clear u9
      simp
    case post2 =>
      refine hide2 fun _ u9 => ?_
      rintro v n ⟨vs, a, n₁, ⟨v₁, n₂, u, ⟨rfl, rfl⟩, ⟨ov, no, oS3, pl, own, rfl, rfl, h2, h3, h4⟩, rfl⟩, rfl, rfl⟩
      refine u9 _ _ ?_; clear u9
      exact ⟨a, ov, no, oS3, pl, own, rfl, rfl, h2, h3, h4⟩
    obtain ⟨tp, ov, no, oS3, pl, own, rfl, rfl, hpl, hS3, hown⟩ := hv
    refine u9 _ _ ?_; clear u9
    have hlen : wkvs.length = i := by rw [← List.length_map (f := (·.1)), h4.ks, List.length_map, ← List.length_map (f := (·.1)), h4.rs, List.length_range']
    have hnew : (1 + ((i : Nat) : Int)) ∉ wkvs.map (·.1) := fun q => by
      rw [h4.ks] at q
      obtain ⟨x, hx, e⟩ := List.mem_map.mp q
      have : x.1 ∈ List.range' 1 i := h4.rs ▸ List.mem_map_of_mem (f := (·.1)) hx
      rw [List.mem_range'_1] at this
      omega
    refine ⟨(tp, tupO [.int ((j : Nat) : Int) tj, ov, .ref D]) :: (so, oS3) :: (no ++ [(D, lstO ys)]), wa, owd, Y ++ (Z ++ t), 1 + ((i : Nat) : Int), by simp, h3, by omega, ev_cell (v := .ref wa) (o := cw) (c := L + 1) (by first | (walk_at "in"; done) | simp [hcw]) hcd, ev_nameP (by walk_at "mem") (intIs ⟨tv, rfl⟩), fun od' hod => ?_⟩
    rw [stored_new hnew] at hod
    refine ex_nil fun s C => ⟨_, (so, oS3) :: (wa, od') :: (Y ++ ((tp, tupO [.int ((j : Nat) : Int) tj, ov, .ref D]) :: (no ++ [(D, lstO ys)]) ++ Z)), ⟨rfl, oS3, od', _, rl ++ [(1 + i, ⟨j, own, ws⟩)], wkvs ++ [(1 + ((i : Nat) : Int), .ref tp)], pl, rfl, by omega, hS3, hod, ⟨?_, ?_, ?_⟩, fun g' hg => ?_⟩, (C.weak (by walk_at "sub")).perm (by walk_at "perm")⟩
    · rw [List.map_append, List.map_append, h4.ks]; simp
    · rw [List.map_append, h4.rs, List.range'_concat]; simp
    · intro x hx
      rcases List.mem_append.mp hx with hx | hx
      · exact h4.ok x hx
      · rw [List.mem_singleton.mp hx]
        refine ⟨w3, w2, fun nl e => ?_⟩
        change own = some nl at e
        subst e
        walk_at "h"
        obtain ⟨_, _, _, _, _, _, h⟩ := hown
        walk_at "u"
        exact h
    · have g1 : Std ((tp, tupO [.int ((j : Nat) : Int) tj, ov, .ref D]) :: (no ++ [(D, lstO ys)])) g' := hg.left
      refine (h5 g' hg.right).snoc ⟨by simp, tp, rfl, tj, ov, D, ys, ⟨_, g1 _ (.head _), rfl, _, rfl⟩, ⟨_, g1 (D, lstO ys) (by simp), rfl, _, rfl⟩, w1, ?_⟩
      dsimp only
      cases own with
      | none => exact hown.1
      | some nl =>
        walk_at "h"
        obtain ⟨na, o, rfl, rfl, e3, ⟨kvs, e4, e5⟩, e6⟩ := hown
        walk_at "u"
        exact ⟨na, kvs, rfl, ⟨Heap.dictOf_iff.mpr ⟨o, g1 (na, o) (by simp), e4⟩, e3⟩, e5⟩
end
section
variable {Γ : G} {l l' : List (Str × Value)} {news news' fz Y : List (Addr × Obj)} {s : Shared} {rest : List Stmt} {Q : Flow → Shared → Prop} {E : Value → Shared → Prop}
theorem Cx.mini (C : Cx Γ l news s) (hY : ∀ p ∈ Y, p ∈ news) : ∃ gY, Std Y gY ∧ ∀ h, Std Y h → ∀ b o, gY.get? b = some o → h.get? b = some o := by
  classical
  refine ⟨hideAll s.heap ((List.range s.heap.objs.size).filter fun b => decide (b ∉ Y.map (·.1))), fun p hp => ?_, fun h hs b o e => ?_⟩
  · refine hideAll_get _ (C.obj (hY p hp)) fun q => ?_
    have := (List.mem_filter.mp q).2
    exact of_decide_eq_true this (List.mem_map_of_mem hp)
  · have e' : s.heap.get? b = some o := of_hideAll _ e
    by_cases hb : b ∈ Y.map (·.1)
    · obtain ⟨p, hp, rfl⟩ := List.mem_map.mp hb
      rw [C.obj (hY p hp)] at e'
      cases e'
      exact hs p hp
    · have : b ∈ (List.range s.heap.objs.size).filter fun b => decide (b ∉ Y.map (·.1)) := List.mem_filter.mpr ⟨List.mem_range.mpr (Heap.lt_size e'), decide_eq_true hb⟩
      rw [hideAll_none _ this] at e
      cases e
theorem evx_ctm {o : Expr} {n : Str} {apos pos : Pos} {x C : Addr} {F : FI} {e : Expr} {r : List Expr} {R : List Value → List (Addr × Obj) → Prop} {P' : Value → List (Addr × Obj) → Prop} (G : F.Good) (ok : methOk (KL Γ.w.params) C n F.f = true) (ho : Ev Γ l news o (· = .ref x)) (hno : ∀ s, Cx Γ l news s → NoAt s.heap x C n)
    (ha : EvsN Γ l news pos (e :: r) R) (hc : ∀ vs n, R vs n → ∃ (M fz : List (Addr × Obj)) (facts : Heap → Prop) (P : Value → List (Addr × Obj) → Prop) (k : Nat), (n ++ news).Perm (M ++ fz) ∧ Ct Γ.w F.f (.ref x :: vs) facts M P False k ∧ Room Γ.A k ∧ (∀ g, (∀ b o, Γ.g.get? b = some o → g.get? b = some o) → Std fz g → facts g) ∧ ∀ v n₁, P v n₁ → ∃ m, (n₁ ++ fz).Perm m ∧ P' v m)
    (hm : MC Γ o n (e :: r) apos pos) (he : starEach (e :: r) Γ.env = (false, eval e Γ.env) :: starEach r Γ.env := by rfl) :
    EvX Γ l news (.Call (.Attribute o n apos) (e :: r) [] pos) P' False := by
  have key : ∀ vs m, (∃ n₁, m = n₁ ++ news ∧ R vs n₁) → CallX Γ l m F.f (.ref x :: vs) (fun v n => ∃ m, n.Perm m ∧ P' v m) False := fun vs m hv => by
    obtain ⟨n₁, rfl, hR⟩ := hv
    walk_at "h"
    obtain ⟨M, fz, facts, P, k, h1, h2, h3, h4, h5⟩ := hc vs n₁ hR
    walk_at "u"
    refine CallX.perm (CallX.mono (Ct.use h2 h3 fun s C => h4 _ (fun b o e => (C.drop (List.sublist_append_left _ _)).g_le e) fun p hp => C.frozen hp) fun v n h => ?_) h1
    obtain ⟨n₂, rfl, hP⟩ := h
    exact h5 v n₂ hP
  refine EvX.perm (P := fun v n => ∃ m, n.Perm m ∧ P' v m) (fun s Q E C k hE => hm.elim fun pl hm => hm _ _ _ (ho s _ E C fun v s₁ hv C₁ => ?_)) fun v n h => h
  subst hv
  unfold methOk at ok
  simp only [Bool.and_eq_true, beq_iff_eq] at ok
  obtain ⟨⟨k1, k2⟩, k3⟩ := ok
  walk_at "h"
  obtain ⟨d, es, i, h1, h2, h3⟩ := hno s₁ C₁
  walk_at "u"
  refine method_fn C₁.k (⟨h1, rfl, rfl, h2⟩ : InstAt s₁.heap x (instObj _ d) _ (some (dictOf es i))) (plainGet_of k1).1 (plainGet_of k1).2 k2 k3 ?_ ?_
  · unfold shadowIn
    have h3' : lookIn n (dictOf es i) = some none := h3
    exact congrArg (fun z => Option.map (fun x => x.isSome) z) h3'
  · exact call_fnX (first := [.ref x]) (G.k _) rfl ha C₁ (fun vs n s₂ hv C₂ => key vs n hv s₂ Q E C₂ k hE) hE he
end
theorem rl_find {β : Type} {S : Nat → Value → β → Prop} : ∀ {kvs : List (Int × Value)} {rl : List (Nat × β)}, AllR (fun kv x => kv.1 = ((x.1 : Nat) : Int) ∧ S x.1 kv.2 x.2) kvs rl → ∀ k : Nat,
    (rl.find? (fun x => x.1 = k) = none ∧ valueAt kvs ((k : Nat) : Int) = none) ∨ ∃ r v, rl.find? (fun x => x.1 = k) = some (k, r) ∧ (k, r) ∈ rl ∧ valueAt kvs ((k : Nat) : Int) = some v ∧ S k v r
  | [], [], _, k => .inl ⟨rfl, rfl⟩
  | kv :: kvs, x :: rl, h, k => by
    obtain ⟨⟨h1, h2⟩, h3⟩ := h
    obtain ⟨j, r⟩ := x
    obtain ⟨kk, v⟩ := kv
    dsimp only at h1 h2
    by_cases hj : j = k
    · subst hj h1
      exact .inr ⟨r, v, by simp, .head _, by simp [valueAt], h2⟩
    · have e2 : valueAt ((kk, v) :: kvs) ((k : Nat) : Int) = valueAt kvs ((k : Nat) : Int) := by
        have : ¬ ((j : Nat) : Int) = ((k : Nat) : Int) := by omega
        simp [valueAt, h1, this]
      have e1 : ((j, r) :: rl).find? (fun x => x.1 = k) = rl.find? (fun x => x.1 = k) := by simp [hj]
      rw [e1, e2]
      rcases rl_find h3 k with h | ⟨r', v', a, b, c, d⟩
      · exact .inl h
      · exact .inr ⟨r', v', a, .tail _ b, c, d⟩
noncomputable def worldOf (rl : List (Nat × Rec)) : WorldD := fun k => (rl.find? fun x => x.1 = k).map fun x => x.2.F
theorem worldOf_some {rl : List (Nat × Rec)} {k : Nat} {F : FormD} (h : worldOf rl k = some F) : ∃ r, (k, r) ∈ rl ∧ F = r.F ∧ rl.find? (fun x => x.1 = k) = some (k, r) := by
  unfold worldOf at h
  obtain ⟨x, h1, h2⟩ := Option.map_eq_some_iff.mp h
  have h3 : x.1 = k := by have := List.find?_some h1; simpa using this
  obtain ⟨j, r⟩ := x
  dsimp only at h3 h2
  subst h3
  exact ⟨r, List.mem_of_find?_eq_some h1, h2.symm, h1⟩
theorem find_rng {rl : List (Nat × Rec)} {count k : Nat} (hr : rl.map (·.1) = List.range' 1 count) (h1 : 1 ≤ k) (h2 : k ≤ count) : rl.find? (fun x => x.1 = k) ≠ none := fun q => by
  have : k ∈ rl.map (·.1) := by rw [hr, List.mem_range'_1]; omega
  obtain ⟨x, hx, e⟩ := List.mem_map.mp this
  have := List.find?_eq_none.mp q x hx
  exact this (by simpa using e)
theorem wdF_of {w : World} {g : Heap} {wa : Addr} {count : Nat} {wkvs : List (Int × Value)} {rl : List (Nat × Rec)} (h : WlF w g wkvs rl) (hl : Wl count count wkvs rl) (hw : SD w (PySem.intKind prg w) g wa wkvs) : WdF w g wa count (worldOf rl) := by
  refine ⟨wkvs, hw, fun k h1 h2 => ?_⟩
  rcases rl_find (S := fun k v (r : Rec) => ∃ tp, v = .ref tp ∧ RecE w g tp r) h k with ⟨q, _⟩ | ⟨r, v, e1, e2, e3, tp, rfl, e4⟩
  · exact absurd q (find_rng hl.rs h1 h2)
  · refine ⟨r.F, tp, by unfold worldOf; rw [e1]; rfl, e3, ?_⟩
    have ok := hl.ok _ e2
    walk_at "h"
    obtain ⟨t, ov, wl, ys, a, b, c, d⟩ := e4
    walk_at "u"
    refine ⟨t, ov, wl, ys, a, b, c, ?_⟩
    show match r.own.map nmF with | none => _ | some nm => _
    cases e : r.own with
    | none => rw [e] at d; exact d
    | some nl =>
      rw [e] at d
      walk_at "h"
      obtain ⟨na, kvs, x, y, z⟩ := d
      walk_at "u"
      exact ⟨na, kvs, nl, x, y, z, rfl, fun x hx => ((ok.2.2 nl e).2.1 x hx).2⟩
def FormP (w : World) (g : Heap) (W : WorldD) (k : Nat) (F : FormD) (tp : Addr) : Prop := ∃ st t hd hk nf t' t2, IsTup g tp #[.int F.gen t, .ref st] ∧ At g st 247 "head" (.ref hd) ∧ At g st 247 "octets" (.bytes #[UInt8.ofNat k] t2) ∧
    SD w (PySem.strKind prg w) g hd hk ∧ valueAt hk "Subtype" = some (.ref nf) ∧ At g nf 204 "text" (.str "Form" t') ∧ valueAt hk "Matrix" = none ∧ valueAt hk "BBox" = none ∧
    match F.own with
    | none => valueAt hk "Resources" = none
    | some nm => ∃ ra, valueAt hk "Resources" = some (.ref ra) ∧ Res w g W ra nm
def TbF (w : World) (g : Heap) (W : WorldD) (tkvs : List (Int × Value)) (rl : List (Nat × Rec)) : Prop := AllR (fun kv x => kv.1 = ((x.1 : Nat) : Int) ∧ ∃ tp, kv.2 = .ref tp ∧ FormP w g W x.1 x.2.F tp) tkvs rl
def HdF (g : Heap) (hkvs : List (Int × Value)) (rl : List (Nat × Rec)) : Prop := AllR (fun kv x => kv.1 = ((x.1 : Nat) : Int) ∧ ∃ r, kv.2 = .ref r ∧ RowsAt g r (rowsOf true x.2.wishes)) hkvs rl
noncomputable def hlOf (hkvs : List (Int × Value)) (k : Nat) : Addr := match valueAt hkvs ((k : Nat) : Int) with | some (.ref r) => r | _ => 0
theorem form_at {w : World} {g : Heap} {tb : Addr} {count : Nat} {wkvs tkvs hkvs : List (Int × Value)} {rl : List (Nat × Rec)} (hl : Wl count count wkvs rl) (hc : count ≤ 10) (ht : TbF w g (worldOf rl) tkvs rl) (hh : HdF g hkvs rl) (htb : SD w (PySem.intKind prg w) g tb tkvs) {k : Nat} {F : FormD} (hF : worldOf rl k = some F) :
    FormAt w g (worldOf rl) tb (hlOf hkvs) k F ∧ k ≤ 200 ∧ F.wishes.length ≤ 2 ∧ (∀ c ∈ F.wishes, c.length ≤ 100) ∧ valueAt hkvs ((k : Nat) : Int) = some (.ref (hlOf hkvs k)) := by
  walk_at "h"
  obtain ⟨r, h1, rfl, h2⟩ := worldOf_some hF
  walk_at "u"
  have hk : k ≤ 200 := by
    have : k ∈ rl.map (·.1) := List.mem_map_of_mem (f := (·.1)) h1
    rw [hl.rs, List.mem_range'_1] at this; omega
  obtain ⟨o1, o2, o3⟩ := hl.ok _ h1
  rcases rl_find (S := fun k v (r : Rec) => ∃ tp, v = .ref tp ∧ FormP w g (worldOf rl) k r.F tp) ht k with ⟨q, _⟩ | ⟨r1, v1, e1, -, e3, tp, rfl, st, t, hd, hk', nf, t', t2, a1, a2, a3, a4, a5, a6, a7, a8, a9⟩
  · rw [h2] at q; cases q
  rw [h2] at e1; cases e1
  rcases rl_find (S := fun _ v (r : Rec) => ∃ ra, v = .ref ra ∧ RowsAt g ra (rowsOf true r.wishes)) hh k with ⟨q, _⟩ | ⟨r1, v1, e1, -, e5, ra, rfl, e6⟩
  · rw [h2] at q; cases q
  rw [h2] at e1; cases e1
  have eh : hlOf hkvs k = ra := by unfold hlOf; rw [e5]
  exact ⟨⟨tkvs, tp, st, t, hd, hk', nf, t', t2, htb, e3, a1, a2, a3, a4, a5, a6, a7, a8, eh ▸ e6, o1, a9⟩, hk, o1, fun c hc => (o2 c hc).len, eh ▸ e5⟩
theorem m_put (P : Params) : methOk (KL P) 391 "put" F_Shelf_put.f = true := by kernel_rfl
theorem nodup_fst {α : Type} : ∀ {l : List (Nat × α)}, (l.map (·.1)).Nodup → ∀ x ∈ l, ∀ y ∈ l, x.1 = y.1 → x = y
  | a :: l, nd, x, hx, y, hy, e => by
    rw [List.map_cons, List.nodup_cons] at nd
    rcases List.mem_cons.mp hx with hx1 | hx2 <;> rcases List.mem_cons.mp hy with hy1 | hy2
    · rw [hx1, hy1]
    · exact absurd (by rw [← hx1, e]; exact List.mem_map_of_mem (f := (·.1)) hy2) nd.1
    · exact absurd (by rw [← hy1, ← e]; exact List.mem_map_of_mem (f := (·.1)) hx2) nd.1
    · exact nodup_fst nd.2 x hx2 y hy2 e
def HeadOk (w : World) (W : WorldD) (F : FormD) (hk : List (Str × Value)) (g : Heap) : Prop := ∃ nf t', valueAt hk "Subtype" = some (.ref nf) ∧ At g nf 204 "text" (.str "Form" t') ∧ valueAt hk "Matrix" = none ∧ valueAt hk "BBox" = none ∧
  match F.own with
  | none => valueAt hk "Resources" = none
  | some nm => ∃ ra, valueAt hk "Resources" = some (.ref ra) ∧ Res w g W ra nm
def L2J (w : World) (tb hd : Addr) (Y : List (Addr × Obj)) (rl : List (Nat × Rec)) (l1 : List (Str × Value)) (i : Nat) (l : List (Str × Value)) (n : List (Addr × Obj)) : Prop := l = l1 ∧
      ∃ ot ohd Z tkvs hkvs, n = (tb, ot) :: (hd, ohd) :: (Y ++ Z) ∧ ot.IsDictOf (PySem.intKind prg w) tkvs ∧ ohd.IsDictOf (PySem.intKind prg w) hkvs ∧ tkvs.map (·.1) = (rl.take i).map (fun x => ((x.1 : Nat) : Int)) ∧ hkvs.map (·.1) = (rl.take i).map (fun x => ((x.1 : Nat) : Int)) ∧
        ∀ g', Std Z g' → TbF w g' (worldOf rl) tkvs (rl.take i) ∧ HdF g' hkvs (rl.take i)
noncomputable def loop2B : List Stmt := match (fB [108] : List Stmt)[7]? with
  | some (Stmt.For _ _ b _ _) => b
  | _ => []
section
variable {w : World} {A : Around} {s₀ : Shared} {g base : Heap} {L : Addr} {outer : List Env} {Q : Flow → Shared → Prop}
theorem law_loop2 {wa sa tb hd : Addr} {owd cw ch ot ohd : Obj} {sv pv cv sov : Value} {count : Nat} {Y : List (Addr × Obj)} {wkvs : List (Int × Value)} {rl : List (Nat × Rec)} (rm : Room (A.deeper (lawEnv L)) 10) (hc : count ≤ 10)
    (hcw : (L + 1, cw) ∈ Y) (hcd : cw.data = .cell (some (.ref wa))) (hch : (L + 4, ch) ∈ Y) (hhd : ch.data = .cell (some (.ref hd))) (hwa : (wa, owd) ∈ Y) (howd : owd.IsDictOf (PySem.intKind prg w) wkvs) (hwm : (wa == sysModules) = false) (hl : Wl count count wkvs rl)
    (hYw : ∀ g', Std Y g' → WlF w g' wkvs rl) (hYs : ∀ g', Std Y g' → At g' sa 391 "table" (.ref tb) ∧ NoAt g' sa 391 "put") (hot : ot.IsDictOf (PySem.intKind prg w) ([] : List (Int × Value))) (hohd : ohd.IsDictOf (PySem.intKind prg w) ([] : List (Int × Value)))
    (k : ∀ ot' ohd' Z tkvs hkvs, ot'.IsDictOf (PySem.intKind prg w) tkvs → ohd'.IsDictOf (PySem.intKind prg w) hkvs → (∀ g', Std Z g' → TbF w g' (worldOf rl) tkvs rl ∧ HdF g' hkvs rl) →
      Ex (lawG w A s₀ g L outer base) [(Str.ofString "shelf", .ref sa), (Str.ofString "page", pv), (Str.ofString "count", cv), (Str.ofString "source", sov), (Str.ofString "script", sv)] ((tb, ot') :: (hd, ohd') :: (Y ++ Z)) ((fB [108]).drop 8) Q (fun e s' => False ∧ Flies (lawG w A s₀ g L outer base) e s')) :
    Ex (lawG w A s₀ g L outer base) [(Str.ofString "shelf", .ref sa), (Str.ofString "page", pv), (Str.ofString "count", cv), (Str.ofString "source", sov), (Str.ofString "script", sv)] ((tb, ot) :: (hd, ohd) :: Y) ((fB [108]).drop 7) Q (fun e s' => False ∧ Flies (lawG w A s₀ g L outer base) e s') := by
  conv => { arg 4; whnf }
  have hlen : wkvs.length = rl.length := by rw [← List.length_map (f := (·.1)), hl.ks, List.length_map]
  have hrlen : rl.length = count := by rw [← List.length_map (f := (·.1)), hl.rs, List.length_range']
  refine ex_forW (own := [(wa, owd)]) (N := wkvs.length) (P := fun i v => ∃ k x, wkvs[i]? = some (k, x) ∧ (PySem.intKind prg w).is k v = true) (may := False) (fun i l n => L2J w tb hd Y rl [(Str.ofString "shelf", .ref sa), (Str.ofString "page", pv), (Str.ofString "count", cv), (Str.ofString "source", sov), (Str.ofString "script", sv)] i l n)
    (makesW_keys (Γ := lawG w A s₀ g L outer base) (knd := PySem.intKind prg w) (ev_cell (v := .ref wa) (o := cw) (c := L + 1) (.tail _ (.tail _ hcw)) hcd) (.inr ⟨owd, .head _, howd, hwm⟩) (fun p hp => (List.mem_singleton.mp hp ▸ List.mem_cons_of_mem _ (List.mem_cons_of_mem _ hwa) : p ∈ (tb, ot) :: (hd, ohd) :: Y)))
    ⟨rfl, ot, ohd, [], [], [], by simp, hot, hohd, rfl, rfl, fun _ _ => ⟨trivial, trivial⟩⟩ (by kernel_rfl) (fun i l n h => by rw [h.1]; kernel_rfl) (fun i l n h p hp => by
      walk_at "h"
      obtain ⟨_, _, _, _, _, _, rfl, _⟩ := h
      walk_at "u"
      obtain rfl := List.mem_singleton.mp hp
      exact List.mem_cons_of_mem _ (List.mem_cons_of_mem _ (List.mem_append_left _ hwa))) ?turn ?fin
  case fin =>
    refine hide2 fun _ u9 => ?_
    rintro l n ⟨rfl, ot, ohd, Z, tkvs, hkvs, rfl, h1, h2, h3, h4, h5⟩
    refine u9 _ _ ?_; clear u9
    rw [hlen, List.take_length] at h5
    exact k ot ohd Z tkvs hkvs h1 h2 h5
  case turn =>
    refine hideT fun _ u9 => ?_
    rintro i v l n t hi ⟨k0, x0, hk0, hkv⟩ ⟨rfl, ot, ohd, Z, tkvs, hkvs, rfl, h1, h2, h3, h4, h5⟩
    refine u9 _ _ _ _ _ ?_; clear u9
    obtain ⟨tv, rfl⟩ := isI_of hkv
    show Ex _ _ ((tb, ot) :: (hd, ohd) :: (Y ++ Z ++ t)) _ _ _
    rw [List.append_assoc]
    have hir : i < rl.length := hlen ▸ hi
    obtain ⟨y, hy⟩ : ∃ y, rl[i]? = some y := ⟨rl[i], List.getElem?_eq_getElem hir⟩
    have hym : y ∈ rl := List.mem_of_getElem? hy
    have hky : k0 = ((y.1 : Nat) : Int) := by
      have e1 : (wkvs.map (·.1))[i]? = some k0 := by rw [List.getElem?_map, hk0]; rfl
      rw [hl.ks, List.getElem?_map, hy] at e1
      exact (Option.some.inj e1).symm
    subst hky
    have hyr : 1 ≤ y.1 ∧ y.1 ≤ count := by
      have : y.1 ∈ rl.map (·.1) := List.mem_map_of_mem (f := (·.1)) hym
      rw [hl.rs, List.mem_range'_1] at this; omega
    have hnd : (rl.map (·.1)).Nodup := by rw [hl.rs]; exact List.nodup_range'
    have htake : rl.take (i + 1) = rl.take i ++ [y] := by
      rw [List.take_succ, hy]; rfl
    intro s C
    obtain ⟨gY, y1, y2⟩ := C.mini (Y := Y) fun p hp => .tail _ (.tail _ (List.mem_append_left _ hp))
    refine (?_ : Ex _ _ _ _ _ _) s C
    clear C s
    obtain ⟨tp, hval, hrec⟩ : ∃ tp, valueAt wkvs ((y.1 : Nat) : Int) = some (.ref tp) ∧ RecE w gY tp y.2 := by
      rcases rl_find (S := fun k v (r : Rec) => ∃ tp, v = .ref tp ∧ RecE w gY tp r) (hYw gY y1) y.1 with ⟨q, _⟩ | ⟨r, v, e1, e2, e3, tp, rfl, e4⟩
      · exact absurd q (find_rng hl.rs hyr.1 hyr.2)
      · have := nodup_fst hnd _ e2 _ hym rfl
        exact ⟨tp, e3, by rw [← this]; exact e4⟩
    walk_at "h"
    obtain ⟨te, ov, wl, ys, f3, f4, f5, f6⟩ := hrec
    walk_at "u"
    have hwd : ∀ g', Std Y g' → SD w (PySem.intKind prg w) g' wa wkvs := fun g' h => ⟨Heap.dictOf_iff.mpr ⟨owd, h _ hwa, howd⟩, hwm⟩
    have hwF : ∀ g', Std Y g' → WdF w g' wa count (worldOf rl) := fun g' h => wdF_of (hYw g' h) hl (hwd g' h)
    have hst : ∀ {l : List (Str × Value)} {n : List (Addr × Obj)}, (∀ p ∈ Y, p ∈ n) → ∀ s, Cx (lawG w A s₀ g L outer base) l n s → Std Y s.heap := fun h s C => C.std h
    have hYn : ∀ {N : List (Addr × Obj)} {ot ohd : Obj}, ∀ p ∈ Y, p ∈ N ++ (tb, ot) :: (hd, ohd) :: (Y ++ (Z ++ t)) := fun p hp => List.mem_append_right _ (.tail _ (.tail _ (List.mem_append_left _ hp)))
    have hworld : ∀ {l : List (Str × Value)} {n : List (Addr × Obj)} {p : Pos}, (∀ p ∈ Y, p ∈ n) → Ev (lawG w A s₀ g L outer base) l n (.Name "world" p) (· = .ref wa) := fun h => ev_cell (v := .ref wa) (o := cw) (c := L + 1) (h _ hcw) hcd
    have hheld : ∀ {l : List (Str × Value)} {n : List (Addr × Obj)} {p : Pos}, (∀ p ∈ Y, p ∈ n) → Ev (lawG w A s₀ g L outer base) l n (.Name "held" p) (· = .ref hd) := fun h => ev_cell (v := .ref hd) (o := ch) (c := L + 4) (h _ hch) hhd
    refine ex_unpack3 (l' := [(Str.ofString "number", .int ((y.1 : Nat) : Int) tv), (Str.ofString "shelf", .ref sa), (Str.ofString "page", pv), (Str.ofString "count", cv), (Str.ofString "source", sov), (Str.ofString "script", sv)]) (P := fun a b c n => a = .int ((y.2.gen : Nat) : Int) te ∧ b = ov ∧ c = .ref wl ∧ n = (tb, ot) :: (hd, ohd) :: (Y ++ (Z ++ t))) (may := False)
      (EvX.mono (evx_of (ev_sub (hworld (hYn (N := []))) (ev_nameP (P := IsI ((y.1 : Nat) : Int)) (by walk_at "mem") ⟨_, rfl⟩) (sub_dict (knd := PySem.intKind prg w) (k := ((y.1 : Nat) : Int)) (x := .ref tp) (fun s C => hwd _ (hst (hYn (N := [])) s C)) (fun j hj => intIs hj) hval))) fun v n h => by
        obtain ⟨rfl, rfl⟩ := h
        exact ⟨tp, _, _, _, rfl, .inl fun s C => f3.keeps fun b o => y2 _ (hst (hYn (N := [])) s C) b o, rfl, rfl, rfl, rfl⟩) (fun h => h.elim) (by kernel_rfl) (by kernel_rfl) (by kernel_rfl) (by walk_at "sub") (by kernel_rfl) (by kernel_rfl) (by kernel_rfl) (by kernel_rfl) fun a b c' n hP => ?_
    walk_at "h"
    obtain ⟨rfl, rfl, rfl, rfl⟩ := hP
    walk_at "u"
    refine exx_assign (P := fun v n => ∃ hda oh nf N1 t', v = .ref hda ∧ n = ((hda, oh) :: N1) ++ (tb, ot) :: (hd, ohd) :: (Y ++ (Z ++ t)) ∧ oh.IsDictOf (PySem.strKind prg w) [((("Subtype" : String) : Str), Value.ref nf)] ∧ (hda == sysModules) = false ∧ ∀ g', Std N1 g' → At g' nf 204 "text" (.str "Form" t')) (may := False)
      (EvX.mono (evn_dict1 (key := "Subtype") (fun n => ev_str) fun n => evn_inst (F := F_Name_init) (k := 1) (mk_Name _) (kp_Name _) (ev_glob (g_Name _)) (evsn_cons (evn_of ev_str) fun v n₁ _ => evsn_nil) (Pi := fun vs x dx n => ∃ v0, vs = [v0] ∧ NameO w v0 x dx n) (inst1 (fun x dx v0 => Name_init) ?r1) (rm.le (by decide))) ?p1) (fun h => h.elim) (by kernel_rfl) (by walk_at "sub") (by kernel_rfl) (hide2 fun _ u9 v n hv => ?_)
    case r1 =>
      refine hide2 fun _ u9 => ?_
      rintro vs n ⟨v, n₁, u, n₂, -, ⟨rfl, rfl⟩, rfl, rfl⟩
      refine u9 _ _ ?_; clear u9
      exact ⟨_, rfl⟩
    case p1 =>
      refine hide2 fun _ u9 => ?_
      rintro v n ⟨n₀, rfl, d, o, v1, n₁, rfl, rfl, q1, q2, vs, n₂, x, dx, n₃, ⟨_, _, _, _, ⟨⟨ts, rfl⟩, rfl⟩, ⟨rfl, rfl⟩, rfl, rfl⟩, rfl, ⟨v0, q3, q4⟩, rfl⟩
      refine u9 _ _ ?_; clear u9
      cases q3
      exact ⟨d, o, x, _, ts, rfl, rfl, q1, q2, fun g' hg => q4.text hg.left rfl⟩
    obtain ⟨hda, oh, nf, N1, t', rfl, rfl, hoh, hdm, hN1⟩ := hv
    refine u9 _ _ ?_; clear u9
    have rest : ∀ oh' hk N2, oh'.IsDictOf (PySem.strKind prg w) hk → (∀ g', Std N2 g' → HeadOk w (worldOf rl) y.2.F hk g') → Ex (lawG w A s₀ g L outer base) [(Str.ofString "head", .ref hda), (Str.ofString "wishes", .ref wl), (Str.ofString "own", b), (Str.ofString "generation", .int ((y.2.gen : Nat) : Int) te), (Str.ofString "number", .int ((y.1 : Nat) : Int) tv), (Str.ofString "shelf", .ref sa), (Str.ofString "page", pv), (Str.ofString "count", cv), (Str.ofString "source", sov), (Str.ofString "script", sv)]
        ((hda, oh') :: N2 ++ (tb, ot) :: (hd, ohd) :: (Y ++ (Z ++ t))) (loop2B.drop 3) (fun f s' => match f with | .next | .cont => ∃ l' n', L2J w tb hd Y rl [(Str.ofString "shelf", .ref sa), (Str.ofString "page", pv), (Str.ofString "count", cv), (Str.ofString "source", sov), (Str.ofString "script", sv)] (i + 1) l' n' ∧ Cx (lawG w A s₀ g L outer base) l' (n' ++ t) s' | .brk => False | .ret v => Q (.ret v) s') (fun e s' => False ∧ Flies (lawG w A s₀ g L outer base) e s') := by
      intro oh' hk N2 hhk hN2
      conv => { arg 4; whnf }
      have hkl : ∀ {kvs : List (Int × Value)}, kvs.map (·.1) = (rl.take i).map (fun x => ((x.1 : Nat) : Int)) → ((y.1 : Nat) : Int) ∉ kvs.map (·.1) ∧ kvs.length ≤ 10 := fun {kvs} e => by
        refine ⟨fun q => ?_, ?_⟩
        · rw [e] at q
          obtain ⟨z, hz, ez⟩ := List.mem_map.mp q
          have ez' : z.1 = y.1 := by omega
          have e2 : (rl.take (i + 1)).map (·.1) = (rl.take i).map (·.1) ++ [y.1] := by rw [htake, List.map_append]; rfl
          have nd2 : ((rl.take (i + 1)).map (·.1)).Nodup := ((List.take_sublist _ _).map _).nodup hnd
          rw [e2, List.nodup_append] at nd2
          exact nd2.2.2 z.1 (List.mem_map_of_mem (f := (·.1)) hz) y.1 (.head _) ez'
        · rw [← List.length_map (f := (·.1)), e, List.length_map, List.length_take]; omega
      have hY2 : ∀ g', Std (((hda, oh') :: N2) ++ (tb, ot) :: (hd, ohd) :: (Y ++ (Z ++ t))) g' → Std Y g' := fun g' h p hp => h p (hYn (N := (hda, oh') :: N2) p hp)
      refine exx_setdict (knd := PySem.intKind prg w) (kvs := hkvs) (R := fun _ _ _ _ _ _ => True) (P := fun v n => ∃ r N3, v = .ref r ∧ n = N3 ++ (((hda, oh') :: N2) ++ (tb, ot) :: (hd, ohd) :: (Y ++ (Z ++ t))) ∧ ∀ g', Std N3 g' → RowsAt g' r (rowsOf true y.2.wishes)) (may := False)
        (evx_ct G_law_rows (ev_glob (g_law_rows _)) (evsn_cons (evn_of (by walk_at "nm" : Ev _ _ _ _ (· = Value.ref wl))) fun _ _ _ => evsn_cons (evn_of (ev_bool (b := true))) fun _ _ _ => evsn_nil) (hide2 fun _ u9 vs n hv => ?cr)) (fun h => h.elim) (hide2 fun _ u9 v n hv => ?_)
      case cr =>
        obtain ⟨_, _, _, _, ⟨rfl, rfl⟩, ⟨_, _, _, _, ⟨rfl, rfl⟩, ⟨rfl, rfl⟩, rfl, rfl⟩, rfl, rfl⟩ := hv
        refine u9 _ _ ?_; clear u9
        refine ⟨[], ((hda, oh') :: N2) ++ (tb, ot) :: (hd, ohd) :: (Y ++ (Z ++ t)), _, _, 4, by walk_at "perm", law_rows (ends := true) f5 (by have := (hl.ok _ hym).1; show y.2.wishes.length ≤ 100; omega), rm.le (by decide), fun g' _ h => isList_keeps f4 (y2 g' (hY2 g' h)), fun v n₁ h => ?_⟩
        obtain ⟨r, e, h⟩ := h
        exact ⟨_, .refl _, r, n₁, e, rfl, h⟩
      obtain ⟨r, N3, rfl, rfl, hN3⟩ := hv
      refine u9 _ _ ?_; clear u9
      refine ⟨N3 ++ (((hda, oh') :: N2) ++ [(tb, ot)]), hd, ohd, Y ++ (Z ++ t), ((y.1 : Nat) : Int), by simp, h2, by have := (hkl h4).2; omega, hheld fun p hp => by simp [hp], ev_nameP (by walk_at "mem") (intIs ⟨tv, rfl⟩), fun ohd' hohd' => ?_⟩
      rw [stored_new (hkl h4).1] at hohd'
      have hYm : ∀ p ∈ Y, p ∈ N3 ++ (((hda, oh') :: N2) ++ [(tb, ot)]) ++ (hd, ohd') :: (Y ++ (Z ++ t)) := fun p hp => by simp [hp]
      refine exx_expr (P := fun m => ∃ ot' tp2 stn nst, m = (tb, ot') :: (hd, ohd') :: (Y ++ (((tp2, { cls := .type "tuple", data := .seq #[.int ((y.2.gen : Nat) : Int) te, .ref stn] }) :: (nst ++ N3 ++ ((hda, oh') :: N2)) ++ Z) ++ t)) ∧ ot'.IsDictOf (PySem.intKind prg w) (stored tkvs ((y.1 : Nat) : Int) (.ref tp2)) ∧ ∀ g', Std nst g' → At g' stn 247 "head" (.ref hda) ∧ ∃ t2, At g' stn 247 "octets" (.bytes #[UInt8.ofNat y.1] t2)) (may := False)
        (EvX.mono (evx_ctm (x := sa) (P' := fun v m => v = .none ∧ ∃ ot' tp2 stn nst, m = (tb, ot') :: (hd, ohd') :: (Y ++ (((tp2, { cls := .type "tuple", data := .seq #[.int ((y.2.gen : Nat) : Int) te, .ref stn] }) :: (nst ++ N3 ++ ((hda, oh') :: N2)) ++ Z) ++ t)) ∧ ot'.IsDictOf (PySem.intKind prg w) (stored tkvs ((y.1 : Nat) : Int) (.ref tp2)) ∧ ∀ g', Std nst g' → At g' stn 247 "head" (.ref hda) ∧ ∃ t2, At g' stn 247 "octets" (.bytes #[UInt8.ofNat y.1] t2)) G_Shelf_put (m_put _) (by walk_at "nm") (fun s C => (hYs _ (C.std hYm)).2)
          (evsn_cons (evn_of (by walk_at "nm" : Ev _ _ _ _ (· = Value.int ((y.1 : Nat) : Int) tv))) fun _ _ _ => evsn_cons (evn_of (by walk_at "nm" : Ev _ _ _ _ (· = Value.int ((y.2.gen : Nat) : Int) te))) fun _ _ _ => evsn_cons (evn_inst (F := F_Stream_init) (k := 1) (mk_Stream _) (kp_Stream _) (ev_glob (g_Stream _))
            (evsn_cons (evn_of (by walk_at "nm" : Ev _ _ _ _ (· = Value.ref hda))) fun _ _ _ => evsn_cons (evn_bytes (P := fun ns _ => ns = [((y.1 : Nat) : Int)]) (ev_bltn (b_bytes _) (b_bytes' _)) (EvN.mono (evn_list (evsn_cons (evn_of (by walk_at "nm" : Ev _ _ _ _ (· = Value.int ((y.1 : Nat) : Int) tv))) fun _ _ _ => evsn_nil) ?s1) ?s2)) fun _ _ _ => evsn_nil)
            (Pi := fun vs x dx n => ∃ v0 v1, vs = [v0, v1] ∧ StreamO w v0 v1 x dx n) (inst2 (fun x dx v0 v1 => Stream_init) ?s3) (rm.le (by decide))) fun _ _ _ => evsn_nil) ((hide2 fun _ u9 vs n hv => ?cp)) (by walk_at "mc")) fun v n h => h) (fun h => h.elim) (hide1 fun _ u9 n hn => ?_)
      case s1 =>
        refine hide2 fun _ u9 => ?_
        rintro _ _ ⟨_, _, _, _, -, ⟨rfl, rfl⟩, rfl, rfl⟩
        refine u9 _ _ ?_; clear u9
        simp
      case s2 =>
        refine hide2 fun _ u9 => ?_
        rintro v n ⟨a, vs, n₁, rfl, ⟨_, _, _, _, ⟨rfl, rfl⟩, ⟨rfl, rfl⟩, rfl, rfl⟩, rfl⟩
        refine u9 _ _ ?_; clear u9
        exact ⟨a, _, [((y.1 : Nat) : Int)], rfl, fun s C => ⟨_, C.obj (.head _), rfl, _, rfl⟩, .cons _ _ .nil, fun x hx => by rw [List.mem_singleton.mp hx]; omega, by simp, rfl⟩
      case s3 =>
        refine hide2 fun _ u9 => ?_
        rintro vs n ⟨_, _, _, _, -, ⟨_, _, _, _, -, ⟨rfl, rfl⟩, rfl, rfl⟩, rfl, rfl⟩
        refine u9 _ _ ?_; clear u9
        exact ⟨_, _, rfl⟩
      case cp =>
        obtain ⟨_, _, _, _, ⟨rfl, rfl⟩, ⟨_, _, _, _, ⟨rfl, rfl⟩, ⟨_, _, _, _, ⟨vs, n₀, x, dx, n₁, ⟨_, _, _, nb, ⟨rfl, rfl⟩, ⟨_, _, _, _, ⟨ns, t2, rfl, rfl⟩, ⟨rfl, rfl⟩, rfl, rfl⟩, rfl, rfl⟩, rfl, ⟨v0, v1, e0, e1⟩, rfl⟩, ⟨rfl, rfl⟩, rfl, rfl⟩, rfl, rfl⟩, rfl, rfl⟩ := hv
        refine u9 _ _ ?_; clear u9
        cases e0
        refine ⟨[(tb, ot)], (n₁ ++ nb) ++ (N3 ++ ((hda, oh') :: N2)) ++ (hd, ohd') :: (Y ++ (Z ++ t)), fun g => At g sa 391 "table" (.ref tb), _, 1, ?_, put h1 (by have := (hkl h3).2; omega), rm.le (by decide), fun g' _ h => (hYs g' fun p hp => h p (by first | (walk_at "in"; done) | simp [hp])).1, fun v n₂ h => ?_⟩
        · walk_at "perm"
        · walk_at "h"
          obtain ⟨rfl, tp2, o', rfl, ho'⟩ := h
          walk_at "u"
          refine ⟨_, ?_, rfl, o', tp2, x, n₁ ++ nb, rfl, ho', fun g' hg => ⟨e1.head hg.left rfl, t2, e1.octets hg.left rfl⟩⟩
          walk_at "perm"
      obtain ⟨ot', tp2, stn, nst, rfl, hot', hnst⟩ := hn
      refine u9 _ ?_; clear u9
      rw [stored_new (hkl h3).1] at hot'
      refine ex_nil fun s C => ⟨_, _, ⟨rfl, ot', ohd', (tp2, { cls := .type "tuple", data := .seq #[.int ((y.2.gen : Nat) : Int) te, .ref stn] }) :: (nst ++ N3 ++ ((hda, oh') :: N2)) ++ Z, tkvs ++ [(((y.1 : Nat) : Int), .ref tp2)], hkvs ++ [(((y.1 : Nat) : Int), .ref r)], rfl, hot', hohd', ?_, ?_, fun g' hg => ?_⟩, (C.weak (by walk_at "sub")).perm (by walk_at "perm")⟩
      · rw [List.map_append, h3, htake, List.map_append]; rfl
      · rw [List.map_append, h4, htake, List.map_append]; rfl
      · rw [htake]
        have g1 : Std ((tp2, ({ cls := .type "tuple", data := .seq #[.int ((y.2.gen : Nat) : Int) te, .ref stn] } : Obj)) :: (nst ++ N3 ++ ((hda, oh') :: N2))) g' := hg.left
        obtain ⟨q1, q2⟩ := h5 g' hg.right
        walk_at "h"
        obtain ⟨nf', t'', b1, b2, b3, b4, b5⟩ := hN2 g' fun p hp => g1 p (by first | (walk_at "in"; done) | simp [hp])
        walk_at "u"
        obtain ⟨b6, t2, b7⟩ := hnst g' fun p hp => g1 p (by first | (walk_at "in"; done) | simp [hp])
        exact ⟨q1.snoc ⟨rfl, tp2, rfl, stn, te, hda, hk, nf', t'', t2, ⟨_, g1 _ (.head _), rfl, _, rfl⟩, b6, b7, ⟨Heap.dictOf_iff.mpr ⟨oh', g1 (hda, oh') (by simp), hhk⟩, hdm⟩, b1, b2, b3, b4, b5⟩, q2.snoc ⟨rfl, r, rfl, hN3 g' fun p hp => g1 p (by first | (walk_at "in"; done) | simp [hp])⟩⟩
    cases e : y.2.own with
    | none =>
      rw [e] at f6
      subst f6
      refine ex_if_f (ist_cmp (by walk_at "nm" : Ev _ _ _ _ (· = Value.none)) ev_none (cmp_isnot_none (by rfl))) ?_
      refine rest oh _ N1 hoh fun g' hg => ⟨nf, t', by rfl, hN1 g' hg, by rfl, by rfl, ?_⟩
      unfold Rec.F
      rw [e]
      rfl
    | some nl =>
      rw [e] at f6
      walk_at "h"
      obtain ⟨na, kvs, rfl, f7, f8⟩ := f6
      walk_at "u"
      refine ex_if_t (ist_cmp (by walk_at "nm" : Ev _ _ _ _ (· = Value.ref na)) ev_none (cmp_isnot_none (by rfl))) ?_
      have hY2 : ∀ g', Std (((hda, oh) :: N1) ++ (tb, ot) :: (hd, ohd) :: (Y ++ (Z ++ t))) g' → Std Y g' := fun g' h p hp => h p (hYn (N := (hda, oh) :: N1) p hp)
      refine exx_setdict (knd := PySem.strKind prg w) (kvs := [((("Subtype" : String) : Str), Value.ref nf)]) (R := fun _ _ _ _ _ _ => True) (P := fun v n => ∃ r N3, v = .ref r ∧ n = N3 ++ (((hda, oh) :: N1) ++ (tb, ot) :: (hd, ohd) :: (Y ++ (Z ++ t))) ∧ ∀ g', Std N3 g' → Res w g' (worldOf rl) r (nmF nl)) (may := False)
        (evx_ct G_law_entries (ev_glob (g_law_entries _)) (evsn_cons (evn_of (by walk_at "nm" : Ev _ _ _ _ (· = Value.ref na))) fun _ _ _ => evsn_cons (evn_of (hworld fun p hp => by simp [hp])) fun _ _ _ => evsn_nil) (hide2 fun _ u9 vs n hv => ?ce)) (fun h => h.elim) (hide2 fun _ u9 v n hv => ?_)
      case ce =>
        obtain ⟨_, _, _, _, ⟨rfl, rfl⟩, ⟨_, _, _, _, ⟨rfl, rfl⟩, ⟨rfl, rfl⟩, rfl, rfl⟩, rfl, rfl⟩ := hv
        refine u9 _ _ ?_; clear u9
        refine ⟨[], ((hda, oh) :: N1) ++ (tb, ot) :: (hd, ohd) :: (Y ++ (Z ++ t)), _, _, 3, by walk_at "perm", law_entries (count := count) f8 ((hl.ok _ hym).2.2 nl e), rm.le (by decide), fun g' _ h => ⟨f7.keeps (y2 g' (hY2 g' h)), hwF g' (hY2 g' h)⟩, fun v n₁ h => ?_⟩
        obtain ⟨r, e1, h⟩ := h
        exact ⟨_, .refl _, r, n₁, e1, rfl, h⟩
      obtain ⟨r, N3, rfl, rfl, hN3⟩ := hv
      refine u9 _ _ ?_; clear u9
      refine ⟨N3, hda, oh, N1 ++ (tb, ot) :: (hd, ohd) :: (Y ++ (Z ++ t)), "Resources", by simp, hoh, by simp, by walk_at "nm", Run.mono ev_str (fun v h => strIs h), fun oh' hoh' => ?_⟩
      refine Ex.perm (news' := ((hda, oh') :: (N3 ++ N1)) ++ (tb, ot) :: (hd, ohd) :: (Y ++ (Z ++ t))) ?_ (by walk_at "perm")
      refine rest oh' _ (N3 ++ N1) hoh' fun g' hg => ⟨nf, t', by rfl, hN1 g' hg.right, by rfl, by rfl, ?_⟩
      unfold Rec.F
      rw [e]
      exact ⟨r, by rfl, hN3 g' hg.left⟩
end
theorem bools_snoc {b : Bool} : ∀ {vs : List Value} {bs : List Bool}, LSm.BoolsAre vs bs → LSm.BoolsAre (vs ++ [.bool b]) (bs ++ [b])
  | [], [], _ => .cons b .nil
  | _ :: _, _ :: _, .cons c h => .cons c (bools_snoc h)
theorem worldOf_wishes {count : Nat} {wkvs : List (Int × Value)} {rl : List (Nat × Rec)} (hl : Wl count count wkvs rl) : ∀ k F, worldOf rl k = some F → F.wishes.length ≤ 2 := fun k F h => by
  walk_at "h"
  obtain ⟨r, h1, rfl, _⟩ := worldOf_some h
  walk_at "u"
  exact (hl.ok _ h1).1
def WkRes (W : WorldD) (nm : Str → Option Nat) (ws : List Str) (b : Bool) (dvs : List Value) : Prop := match walks (paints fun c => walk W 8 c nm []) (ws.map some) with
  | some out => b = true ∧ AllR (fun y c => IsS c y) dvs out
  | none => b = false
theorem wkres_step {W : WorldD} {nm : Str → Option Nat} {ws : List Str} {i : Nat} (hi : i < ws.length) {b b' : Bool} {dvs add : List Value} (h : WkRes W nm (ws.take i) b dvs) (h' : match walk W 8 ws[i] nm [] with | some out => b' = true ∧ AllR (fun y c => IsS c y) add out | none => b' = false) : WkRes W nm (ws.take (i + 1)) (b && b') (dvs ++ add) := by
  unfold WkRes at h ⊢
  rw [walks_snoc hi]
  cases e : walks (paints fun c => walk W 8 c nm []) ((ws.take i).map some) with
  | none =>
    rw [e] at h
    dsimp only at h ⊢
    rw [h]; rfl
  | some a =>
    rw [e] at h
    dsimp only at h ⊢
    cases e2 : walk W 8 ws[i] nm [] with
    | none => rw [e2] at h'; dsimp only at h' ⊢; rw [h', Bool.and_false]
    | some o => rw [e2] at h'; dsimp only at h' ⊢; exact ⟨by rw [h.1, h'.1]; rfl, h.2.app h'.2⟩
section
variable {w : World} {A : Around} {s₀ : Shared} {g base : Heap} {L : Addr} {outer : List Env} {Q : Flow → Shared → Prop} {E : Value → Shared → Prop}
theorem law_st10 {wa da na pg : Addr} {cw cn cd : Obj} {l : List (Str × Value)} {count : Nat} {Y : List (Addr × Obj)} {nkvs : List (Str × Value)} {nl : List (Str × Nat)} {pys : List Value} {ws : List Str} {W : WorldD} (rm : Room (A.deeper (lawEnv L)) 20) (hWw : ∀ k F, W k = some F → F.wishes.length ≤ 2)
    (hcw : (L + 1, cw) ∈ Y) (hcwd : cw.data = .cell (some (.ref wa))) (hcn : (L + 2, cn) ∈ Y) (hcnd : cn.data = .cell (some (.ref na))) (hcd : (L + 3, cd) ∈ Y) (hcdd : cd.data = .cell (some (.ref da))) (hpg : (pg, lstO pys) ∈ Y) (hpl : (Str.ofString "page", Value.ref pg) ∈ l) (hpys : AllR (fun y c => IsS c y) pys ws) (hws : ws.length ≤ 2)
    (hYf : ∀ g', Std Y g' → WdF w g' wa count W ∧ SD w (PySem.strKind prg w) g' na nkvs) (hnk : AllR KvR nkvs nl) (hnl : ∀ x ∈ nl, x.2 ≤ count) (hn : (l.all fun p => !(p.1 == (Str.ofString "is_right"))) = true)
    (k : ∀ b dvs kk Z, dvs.length ≤ 2 * cost 8 → WkRes W (nmF nl) ws b dvs → Ex (lawG w A s₀ g L outer base) ((Str.ofString "is_right", .bool b) :: l) ((da, listOf dvs.toArray kk) :: (Y ++ Z)) ((fB [108]).drop 10) Q E) :
    Ex (lawG w A s₀ g L outer base) l ((da, listOf #[] 0) :: Y) ((fB [108]).drop 9) Q E := by
  conv => { arg 4; whnf }
  refine exx_assign (P := fun v n => ∃ b dvs kk Z, v = .bool b ∧ n = (da, listOf dvs.toArray kk) :: (Y ++ Z) ∧ dvs.length ≤ 2 * cost 8 ∧ WkRes W (nmF nl) ws b dvs) (may := False)
    (EvX.mono (evx_all (P := fun bs n => ∃ dvs kk Z, n = (da, listOf dvs.toArray kk) :: (Y ++ Z) ∧ dvs.length ≤ 2 * cost 8 ∧ WkRes W (nmF nl) ws (bs.all id) dvs) (ev_bltn (b_all _) (b_all' _))
      (EvX.mono (evx_comp (own := [(pg, lstO pys)]) (N := pys.toArray.size) (P := fun i v => pys.toArray[i]? = some v) (fun i ys n => ∃ bs dvs kk Z, LSm.BoolsAre ys bs ∧ n = (da, listOf dvs.toArray kk) :: (Y ++ Z) ∧ dvs.length ≤ i * cost 8 ∧ WkRes W (nmF nl) (ws.take i) (bs.all id) dvs)
        (makesW_list (ev_name (v := .ref pg) hpl) (.inr ⟨_, .head _⟩) (fun p hp => (List.mem_singleton.mp hp ▸ List.mem_cons_of_mem _ hpg : p ∈ (da, listOf #[] 0) :: Y)))
        ⟨[], [], 0, [], .nil, by simp, by simp, rfl, trivial⟩ (fun i ys n h p hp => ?own) (by rw [List.size_toArray, hpys.length]; omega) (by rfl) (by kernel_rfl) (by kernel_rfl) (names_of (by kernel_rfl)) (by kernel_rfl) (by kernel_rfl) ?turn) ?p1)) ?p2) (fun h => h.elim) (by kernel_rfl) (fun p hp => hp) hn fun v n hv => ?_
  case own =>
    walk_at "h"
    obtain ⟨bs, dvs, kk, Z, -, rfl, -⟩ := h
    walk_at "u"
    obtain rfl := List.mem_singleton.mp hp
    exact List.mem_cons_of_mem _ (List.mem_append_left _ hpg)
  case p1 =>
    refine hide2 fun _ u9 => ?_
    rintro v n ⟨D, ys, n₁, rfl, rfl, ⟨bs, dvs, kk, Z, h1, rfl, h2, h3⟩, -⟩
    refine u9 _ _ ?_; clear u9
    rw [List.size_toArray, hpys.length] at h2 h3
    rw [List.take_length] at h3
    refine ⟨D, ys, bs, rfl, fun s C => ⟨_, C.obj (List.mem_append_right _ (.head _)), rfl, _, rfl⟩, h1, dvs, kk, Z ++ [(D, lstO ys)], by simp, ?_, h3⟩
    exact Nat.le_trans h2 (Nat.mul_le_mul_right _ hws)
  case p2 =>
    refine hide2 fun _ u9 => ?_
    rintro v n ⟨bs, rfl, dvs, kk, Z, rfl, h2, h3⟩
    refine u9 _ _ ?_; clear u9
    exact ⟨_, dvs, kk, Z, rfl, rfl, h2, h3⟩
  case turn =>
    refine hideC fun _ u9 => ?_
    rintro i v ys n t C hi hv ⟨bs, dvs, kk, Z, h1, rfl, h2, h3⟩
    refine u9 _ _ _ _ _ _ ?_; clear u9
    intro hx
    rw [List.size_toArray, hpys.length] at hi
    have hvi : IsS ws[i] v := hpys.get i v ws[i] (by simpa using hv) (List.getElem?_eq_getElem hi)
    obtain ⟨tv, rfl⟩ := hvi
    have hc8 : cost 8 = 19682 := by decide
    have hx' : ∀ N p, Ev ((lawG w A s₀ g L outer base).comp _ _ C) l (N ++ (((da, listOf dvs.toArray kk) :: (Y ++ Z)) ++ t)) (.Name (Str.ofString "letter") p) (· = Value.str ws[i] tv) := fun N p => by rw [← List.append_assoc]; exact hx _ _
    refine EvX.mono (evx_ct (P' := fun u m => ∃ b' add kk' Z', u = .bool b' ∧ m = ((da, listOf (dvs ++ add).toArray kk') :: (Y ++ Z')) ++ t ∧ add.length ≤ cost 8 ∧ (match walk W 8 ws[i] (nmF nl) [] with | some out => b' = true ∧ AllR (fun y c => IsS c y) add out | none => b' = false)) G_law_walk (ev_glob (g_law_walk _))
      (evsn_cons (evn_of (ev_cell (v := .ref wa) (o := cw) (c := L + 1) (by first | (walk_at "in"; done) | simp [hcw]) hcwd)) fun _ _ _ => evsn_cons (evn_of (hx' _ _)) fun _ _ _ => evsn_cons (evn_of (ev_cell (v := .ref na) (o := cn) (c := L + 2) (by first | (walk_at "in"; done) | simp [hcn]) hcnd)) fun _ _ _ =>
        evsn_cons (evn_list evsn_nil ?s1) fun _ _ _ => evsn_cons (evn_of (ev_cell (v := .ref da) (o := cd) (c := L + 3) (by first | (walk_at "in"; done) | simp [hcd]) hcdd)) fun _ _ _ => evsn_nil) (hide2 fun _ u9 vs n hv => ?cw)) ?p3
    case s1 =>
      rintro _ _ ⟨rfl, rfl⟩
      simp
    case cw =>
      obtain ⟨_, _, _, _, ⟨rfl, rfl⟩, ⟨_, _, _, _, ⟨rfl, rfl⟩, ⟨_, _, _, _, ⟨rfl, rfl⟩, ⟨_, _, _, _, ⟨aa, _, _, rfl, ⟨rfl, rfl⟩, rfl⟩, ⟨_, _, _, _, ⟨rfl, rfl⟩, ⟨rfl, rfl⟩, rfl, rfl⟩, rfl, rfl⟩, rfl, rfl⟩, rfl, rfl⟩, rfl, rfl⟩ := hv
      refine u9 _ _ ?_; clear u9
      refine ⟨[(da, listOf dvs.toArray kk)], (aa, listOf #[] 0) :: (Y ++ Z) ++ t, _, _, 11, by walk_at "perm", law_walk hWw 8 ws[i] tv na aa da nkvs nl [] [] dvs kk hnk hnl trivial (fun k hk => nomatch hk) rfl ?_, rm.le (by decide), fun g' _ h => ⟨(hYf g' fun p hp => h p (by first | (walk_at "in"; done) | simp [hp])).1, (hYf g' fun p hp => h p (by first | (walk_at "in"; done) | simp [hp])).2, ⟨_, h (aa, listOf #[] 0) (by simp), rfl, _, rfl⟩⟩, fun v n₁ h => ?_⟩
      · have : i * cost 8 ≤ 2 * cost 8 := Nat.mul_le_mul_right _ (by omega)
        omega
      · walk_at "h"
        obtain ⟨add, kk', rfl, e1, e2⟩ := h
        walk_at "u"
        cases e : walk W 8 ws[i] (nmF nl) [] with
        | none =>
          rw [e] at e2
          exact ⟨_, by walk_at "perm", false, add, kk', (aa, listOf #[] 0) :: Z, e2, rfl, e1, rfl⟩
        | some out =>
          rw [e] at e2
          exact ⟨_, by walk_at "perm", true, add, kk', (aa, listOf #[] 0) :: Z, e2.1, rfl, e1, rfl, e2.2⟩
    case p3 =>
      refine hide2 fun _ u9 => ?_
      rintro u m ⟨b', add, kk', Z', rfl, rfl, e1, e2⟩
      refine u9 _ _ ?_; clear u9
      refine ⟨_, rfl, bs ++ [b'], dvs ++ add, kk', Z', bools_snoc h1, rfl, by rw [List.length_append, Nat.succ_mul]; omega, ?_⟩
      rw [List.all_append]
      simpa using wkres_step hi h3 e2
  walk_at "h"
  obtain ⟨b, dvs, kk, Z, rfl, rfl, h1, h2⟩ := hv
  walk_at "u"
  exact k b dvs kk Z h1 h2
end
section
variable {Γ : G} {l l' : List (Str × Value)} {news news' fz : List (Addr × Obj)} {s : Shared} {rest : List Stmt} {Q : Flow → Shared → Prop} {E : Value → Shared → Prop}
theorem evx_instX {fe : Expr} {C : Addr} {F : FI} {e : Expr} {r : List Expr} {pos : Pos} {R : List Value → List (Addr × Obj) → Prop} {Pi : List Value → Addr → Addr → List (Addr × Obj) → Prop} {k : Nat} (ok : makeOk (KL Γ.w.params) C F.f = true) (kp : keepIn (KL Γ.w.params) (.ref C) = true) (hf : Ev Γ l news fe (· = .ref C))
    (ha : EvsX Γ l news pos (e :: r) R False) (c : ∀ vs n, R vs n → ∀ x dx, CtC Γ.w F.f (.ref x :: vs) (fun _ => True) [(x, instObj C dx), (dx, emptyDict)] (fun v n => v = .none ∧ Pi vs x dx n) False k) (rm : Room Γ.A (k + 1))
    (he : starEach (e :: r) Γ.env = (false, eval e Γ.env) :: starEach r Γ.env := by rfl) (hplain : (backTo pos (starEach r Γ.env)).any (·.1) = false := by rfl)
    (hc' : eval (.Call fe (e :: r) [] pos) Γ.env = (do callWith pos (← eval fe Γ.env) [] (backTo pos (starEach (e :: r) Γ.env)) (backToKw pos (keywordEach [] Γ.env))) := by rfl) :
    EvX Γ l news (.Call fe (e :: r) [] pos) (fun v n => ∃ vs n₀ x dx n₁, R vs n₀ ∧ v = .ref x ∧ Pi vs x dx n₁ ∧ n = n₁ ++ n₀) False := fun s Q E C₀ q _ =>
  Call_ (hf s _ E C₀ fun v s₁ hv C₁ => by
    subst hv
    refine callWith_K C₁.k0 kp (ha s₁ _ E C₁ (fun vs n s₂ hv C₂ => ⟨C₂.k, ?_⟩) (fun h => h.elim)) he hplain
    refine mk_inst (news := []) (fz := n) ok (c vs n hv) rm C₂ (fun x dx s' C' => trivial) fun x dx n' s' hP C' => ?_
    exact q _ _ s' ⟨vs, n, x, dx, n', hv, rfl, hP, rfl⟩ C') hc'
theorem evx_cmpX {a b : Expr} {op : CmpOp} {pos : Pos} {P : Value → List (Addr × Obj) → Prop} {R : Value → Value → List (Addr × Obj) → Prop} {S : Value → List (Addr × Obj) → Prop} {may : Prop} (ha : EvX Γ l news a P may) (hb : ∀ u n, P u n → EvX Γ l n b (R u) may)
    (hc : ∀ u v n, R u v n → Run Γ l n (compareOp op u v) (fun r => S r n)) (hm : behindInMarks op b = false := by rfl) : EvX Γ l news (.Compare a [op] [b] pos) S may := fun s Q E C k hE =>
  wpAny_Compare1 (ha s _ E C (fun u n s₁ hu C₁ => hb u n hu s₁ _ E C₁ (fun v m s₂ hv C₂ => hc u v m hv s₂ _ E C₂ fun r s₃ hr C₃ => k r m s₃ hr C₃) hE) hE) hm
theorem istx_cmpX {a b : Expr} {op : CmpOp} {pos : Pos} {P : Value → List (Addr × Obj) → Prop} {R : Value → Value → List (Addr × Obj) → Prop} {S : Bool → List (Addr × Obj) → Prop} {may : Prop} (ha : EvX Γ l news a P may) (hb : ∀ u n, P u n → EvX Γ l n b (R u) may)
    (hc : ∀ u v n, R u v n → Run Γ l n (compareOp op u v) (fun r => ∃ b, r = .bool b ∧ S b n)) (hm : behindInMarks op b = false := by rfl) : IsTX Γ l news (.Compare a [op] [b] pos) S may := fun s Q E C k hE =>
  wpAny_isTrue_Compare1 (ha s _ E C (fun u n s₁ hu C₁ => hb u n hu s₁ _ E C₁ (fun v m s₂ hv C₂ => hc u v m hv s₂ _ E C₂ fun r s₃ hr C₃ => by
    obtain ⟨b, rfl, hS⟩ := hr
    exact wpAny_truthy_bool (k b m s₃ hS C₃)) hE) hE) hm
theorem evx_and {e₁ e₂ : Expr} {pos : Pos} {P1 : List (Addr × Obj) → Prop} {P : Value → List (Addr × Obj) → Prop} {may : Prop} (h : EvX Γ l news e₁ (fun v n => v = .bool true ∧ P1 n) may) (h2 : ∀ n, P1 n → EvX Γ l n e₂ P may) : EvX Γ l news (.BoolOp .And [e₁, e₂] pos) P may := fun s Q E C k hE =>
  BoolOp_and (h s _ E C (fun v n s₁ hv C₁ => by
    obtain ⟨rfl, hP⟩ := hv
    refine wpAny_truthy_bool ?_
    rw [if_pos rfl]
    exact BoolOp_one (h2 n hP s₁ Q E C₁ k hE)) hE)
end
def OkS (x : Str) : Prop := x = "" ∨ Letter x
theorem OkS.lay {x : Str} (h : OkS x) : PyData.strOk x = true := by rcases h with rfl | rfl | rfl <;> kernel_rfl
set_option tactic.hygienic true in
theorem walks_ok {f : Str → Option (List Str)} : ∀ {l : List (Option Str)} {o : List Str}, (∀ c, some c ∈ l → ∀ a, f c = some a → ∀ x ∈ a, OkS x) → walks (paints f) l = some o → ∀ x ∈ o, OkS x
  | [], o, _, h => by cases h; exact fun x hx => nomatch hx
  | c :: r, o, hf, h => by
    rw [walks_cons] at h
    split at h
    · cases h
    · rename_i a ha
      split at h
      · cases h
      · rename_i b hb
        cases h
        intro x hx
        rcases List.mem_append.mp hx with hx | hx
        · cases c with
          | none => cases ha; rw [List.mem_singleton.mp hx]; exact .inl rfl
          | some c => exact hf c (.head _) a ha x hx
        · exact walks_ok (fun c hc => hf c (.tail _ hc)) hb x hx
set_option tactic.hygienic true in
theorem walk_ok {W : WorldD} (hW : ∀ k F, W k = some F → ∀ c ∈ F.wishes, Letter c) : ∀ n c nm ab out, Letter c → walk W n c nm ab = some out → ∀ x ∈ out, OkS x
  | 0, c, nm, ab, out, hc, h => by
    unfold walk at h
    split at h
    · cases h; intro x hx; rw [List.mem_singleton.mp hx]; exact .inr hc
    · cases h
  | n + 1, c, nm, ab, out, hc, h => by
    unfold walk at h
    split at h
    · cases h
    · cases h; intro x hx; rw [List.mem_singleton.mp hx]; exact .inr hc
    · rename_i k hk
      split at h
      · cases h
      · split at h
        · cases h
        · rename_i F hF
          refine walks_ok (fun d hd a ha => walk_ok hW n d _ _ a ?_ ha) h
          unfold rowsOf at hd
          simp at hd
          exact hW _ F hF d hd
theorem oc_some (n : Nat) : ∀ ws : List Str, oc n (ws.map some) = ws.length * cost n
  | [] => by simp [oc]
  | c :: ws => by rw [List.map_cons, List.length_cons, Nat.succ_mul, Nat.add_comm]; show cost n + oc n (ws.map some) = _; rw [oc_some n ws]
theorem rowsOf_false (ws : List Str) : rowsOf false ws = ws.map some := by simp [rowsOf]
noncomputable abbrev markO (t t' : Tok) (x : Str) (m : Value) : Obj := { cls := .type "tuple", data := .seq #[.str "image" t, .str x t', m] }
def MkR (n : List (Addr × Obj)) (v : Value) (x : Str) : Prop := ∃ a t t' m, v = .ref a ∧ (a, markO t t' x m) ∈ n
def PrR (n : List (Addr × Obj)) (v : Value) (x : Str) : Prop := ∃ a t t', v = .ref a ∧ (a, tupO [.str "image" t, .str x t']) ∈ n
theorem MarkOf.allR {out : List Str} {objs : List (Addr × Obj)} (h : MarkOf out objs) (n : List (Addr × Obj)) (hn : ∀ p ∈ objs, p ∈ n) : AllR (MkR n) (objs.map fun p => .ref p.1) out := by
  induction h with
  | nil => trivial
  | cons _ ih => exact ⟨⟨_, _, _, _, rfl, hn _ (.head _)⟩, ih fun p hp => hn p (.tail _ hp)⟩
noncomputable def prD (out : List Str) : List PyData := out.map fun x => .tuple [.str "image", .str x]
noncomputable def stD (out : List Str) : List PyData := out.map .str
theorem pr_reads {h : Heap} {n : List (Addr × Obj)} (hn : ∀ p ∈ n, h.get? p.1 = some p.2) : ∀ {ys : List Value} {out : List Str}, AllR (PrR n) ys out → ∃ bs, ReadsAll h ys (prD out) bs
  | [], [], _ => ⟨_, .nil⟩
  | y :: ys, x :: out, a => by
    obtain ⟨bs, hb⟩ := pr_reads hn a.2
    walk_at "h"
    obtain ⟨b, t, t', rfl, hm⟩ := a.1
    walk_at "u"
    exact ⟨_, .cons (.tuple (hn _ hm) rfl rfl (.cons (.str _ _) (.cons (.str _ _) .nil))) hb⟩
theorem st_reads {h : Heap} : ∀ {ys : List Value} {out : List Str}, AllR (fun y c => IsS c y) ys out → ∃ bs, ReadsAll h ys (stD out) bs
  | [], [], _ => ⟨_, .nil⟩
  | y :: ys, x :: out, a => by
    obtain ⟨bs, hb⟩ := st_reads (h := h) a.2
    obtain ⟨t, rfl⟩ := a.1
    exact ⟨_, .cons (.str _ _) hb⟩
theorem pr_lay : ∀ {out : List Str}, (∀ x ∈ out, OkS x) → PyData.canLayAll0 (prD out) = true
  | [], _ => by simp [prD, PyData.canLayAll0]
  | x :: out, h => by
    have := pr_lay (out := out) fun y hy => h y (.tail _ hy)
    have h1 := (h x (.head _)).lay
    have h2 : PyData.strOk "image" = true := by kernel_rfl
    unfold prD at this ⊢
    simp [PyData.canLayAll0, PyData.canLay0, h1, h2, this]
theorem st_lay : ∀ {out : List Str}, (∀ x ∈ out, OkS x) → PyData.canLayAll0 (stD out) = true
  | [], _ => by simp [stD, PyData.canLayAll0]
  | x :: out, h => by
    have := st_lay (out := out) fun y hy => h y (.tail _ hy)
    have h1 := (h x (.head _)).lay
    unfold stD at this ⊢
    simp [PyData.canLayAll0, PyData.canLay0, h1, this]
theorem pr_depth : ∀ out : List Str, PyData.depthAll (prD out) ≤ 1
  | [] => by simp [prD, PyData.depthAll]
  | x :: out => by
    have := pr_depth out
    unfold prD at this ⊢
    simp only [List.map_cons, PyData.depthAll, PyData.depth]
    omega
theorem st_depth : ∀ out : List Str, PyData.depthAll (stD out) ≤ 1
  | [] => by simp [stD, PyData.depthAll]
  | x :: out => by
    have := st_depth out
    unfold stD at this ⊢
    simp only [List.map_cons, PyData.depthAll, PyData.depth]
    omega
theorem cmp_lists {Γ : G} {l : List (Str × Value)} {n : List (Addr × Obj)} {a b : Addr} {ys zs : List Value} {d : List PyData} (ha : ∀ s, Cx Γ l n s → s.heap.IsList a ys.toArray) (hb : ∀ s, Cx Γ l n s → s.heap.IsList b zs.toArray) (hra : ∀ s, Cx Γ l n s → ∃ bs, ReadsAll s.heap ys d bs) (hrb : ∀ s, Cx Γ l n s → ∃ bs, ReadsAll s.heap zs d bs)
    (hl : PyData.canLayAll0 d = true) (hd : PyData.depthAll d ≤ 1) : Run Γ l n (compareOp .NotEq (.ref a) (.ref b)) (· = .bool false) ∧ Run Γ l n (compareOp .Eq (.ref a) (.ref b)) (· = .bool true) := by
  have hl' : (PyData.list d).canLay0 = true := hl
  have hd' : (PyData.list d).depth ≤ 2 := by show PyData.depthAll d + 1 ≤ 2; omega
  have hc : (9100 : Nat) ≤ cLine := by unfold cLine; omega
  constructor
  · refine Run.of fun s Q E C q => ?_
    walk_at "h"
    obtain ⟨o, e1, e2, m, e3⟩ := ha s C
    walk_at "u"
    walk_at "h"
    obtain ⟨o', e1', e2', m', e3'⟩ := hb s C
    walk_at "u"
    obtain ⟨bs, hr⟩ := hra s C
    obtain ⟨bs', hr'⟩ := hrb s C
    have hu := C.ok.hu
    refine SeqAt.compareNe_reads (.list e1 e2 e3 (by simpa using hr)) (.list e1' e2' e3' (by simpa using hr')) hl' hl' (by omega) ?_
    rw [SeqAt.eqv_refl _ hl']
    exact q _ s.toks rfl
  · refine Run.of fun s Q E C q => ?_
    walk_at "h"
    obtain ⟨o, e1, e2, m, e3⟩ := ha s C
    walk_at "u"
    walk_at "h"
    obtain ⟨o', e1', e2', m', e3'⟩ := hb s C
    walk_at "u"
    obtain ⟨bs, hr⟩ := hra s C
    obtain ⟨bs', hr'⟩ := hrb s C
    have hu := C.ok.hu
    refine SeqAt.compareEq_reads (.list e1 e2 e3 (by simpa using hr)) (.list e1' e2' e3' (by simpa using hr')) hl' hl' (by omega) ?_
    rw [SeqAt.eqv_refl _ hl']
    exact q _ s.toks rfl
theorem PaintF.next {w : World} {g : Heap} {W : WorldD} {D : PD} {V V' : PV} {hl : Nat → Addr} {nm : Str → Option Nat} {ab : List Nat} {n : Nat} {OF : Heap → Prop} {objs : List (Addr × Obj)} (u : PaintF w g W D V hl nm ab n OF) (a : After V V' objs) (h : V'.ms.length + cost n ≤ 90000 ∧ V'.cs.length + cost n ≤ 90000) : PaintF w g W D V' hl nm ab n OF :=
  ⟨u.pf, by rw [a.st]; exact u.sf, by rw [a.re]; exact u.re, by rw [a.fl]; exact u.fl, by rw [a.sk]; exact u.sk, u.op, u.of, u.wf, by rw [a.fs]; exact u.fs, u.len, h⟩
section
variable {w : World} {A : Around} {s₀ : Shared} {g base : Heap} {L : Addr} {Q : Flow → Shared → Prop} {E : Value → Shared → Prop} {l : List (Str × Value)} {D : PD} {V : PV} {W : WorldD} {hl : Nat → Addr} {nm : Str → Option Nat} {FZ news : List (Addr × Obj)} {pg da : Addr} {pys dvs : List Value} {ws outs : List Str} {kk : Nat} {cd : Obj}
noncomputable abbrev wk (W : WorldD) (nm : Str → Option Nat) (ws : List Str) : Option (List Str) := walks (paints fun c => walk W 8 c nm []) (ws.map some)
def LetP (w : World) (W : WorldD) (nm : Str → Option Nat) (ws : List Str) (D : PD) (V : PV) (FZ : List (Addr × Obj)) (v : Value) (m : List (Addr × Obj)) : Prop := ∃ N, (v = .bool true ∧ ∃ n', PostM w.params D V (wk W nm ws) .none n' ∧ m = n' ++ (N ++ FZ)) ∨ (v = .bool false ∧ wk W nm ws = none ∧ m = N ++ FZ)
theorem let_x {p1 p2 p3 p4 p5 p6 p7 : Pos} {i : Nat} (rm : Room (A.deeper (lawEnv L)) 60) (hws : ws.length ≤ 2) (hlet : ∀ c ∈ ws, Letter c) (hpys : AllR (fun y c => IsS c y) pys ws) (hpg : (pg, lstO pys) ∈ FZ) (hp : (Str.ofString "painter", Value.ref D.pa) ∈ l) (hpl : (Str.ofString "page", Value.ref pg) ∈ l)
    (hF : ∀ g', (∀ b o, g.get? b = some o → g'.get? b = some o) → Std FZ g' → PaintF w g' W D V hl nm [] 8 (OpnF w hl W D.op)) (hms : V.ms.length ≤ 100 ∧ V.cs.length ≤ 100) :
    EvX (lawG w A s₀ g L [] base) l (core w.params D V ++ FZ) (.Call (.Name "_law_is_let" p1) [.Name "painter" p2, .Call (.Name "_law_rows" p3) [.Name "page" p4, .Constant (.bool false) i p5] [] p6] [] p7) (LetP w W nm ws D V FZ) False := by
  have hc8 : cost 8 = 19682 := by decide
  refine evx_callX (R := fun vs m => ∃ r N, vs = [.ref D.pa, .ref r] ∧ m = N ++ (core w.params D V ++ FZ) ∧ ∀ g', Std N g' → RowsAt g' r (ws.map some)) G_law_is_let (ev_glob (g_law_is_let _)) ?args (hide2 fun _ u9 vs m hv => ?call)
  case args =>
    refine EvsX.mono (evsx_cons (R := fun _ _ u m => ∃ r N, u = [Value.ref r] ∧ m = N ++ (core w.params D V ++ FZ) ∧ ∀ g', Std N g' → RowsAt g' r (ws.map some)) (evx_of (ev_name (v := .ref D.pa) hp)) (hide2 fun _ u9 v n hv => ?q)) (hide2 fun _ u9 vs n hv => ?r)
    case q =>
      obtain ⟨rfl, rfl⟩ := hv
      refine u9 _ _ ?_; clear u9
      refine EvsX.mono (evsx_cons (P := fun v m => ∃ r N, v = .ref r ∧ m = N ++ (core w.params D V ++ FZ) ∧ ∀ g', Std N g' → RowsAt g' r (ws.map some)) (R := fun _ m u m' => u = [] ∧ m' = m)
        (evx_ct G_law_rows (ev_glob (g_law_rows _)) (evsn_cons (evn_of (ev_name (v := .ref pg) hpl)) fun _ _ _ => evsn_cons (evn_of (ev_bool (b := false))) fun _ _ _ => evsn_nil) (hide2 fun _ u9 vs n hv => ?cr)) fun v n h => evsx_of (R := (· = [])) evs_nil) (hide2 fun _ u9 vs n hv => ?_)
      case cr =>
        obtain ⟨_, _, _, _, ⟨rfl, rfl⟩, ⟨_, _, _, _, ⟨rfl, rfl⟩, ⟨rfl, rfl⟩, rfl, rfl⟩, rfl, rfl⟩ := hv
        refine u9 _ _ ?_; clear u9
        refine ⟨[], core w.params D V ++ FZ, _, _, 4, by walk_at "perm", law_rows (ends := false) hpys (by omega), rm.le (by decide), fun g' _ h => ⟨_, h.right _ hpg, rfl, _, rfl⟩, fun v n₁ h => ?_⟩
        obtain ⟨r, e, h⟩ := h
        exact ⟨_, .refl _, r, n₁, e, rfl, fun g' hg => by have := h g' hg; rw [rowsOf_false] at this; exact this⟩
      obtain ⟨v, n₁, u, ⟨r, N, rfl, rfl, h3⟩, ⟨rfl, rfl⟩, rfl⟩ := hv
      refine u9 _ _ ?_; clear u9
      exact ⟨r, N, rfl, rfl, h3⟩
    case r =>
      obtain ⟨v, n₁, u, ⟨rfl, rfl⟩, ⟨r, N, rfl, rfl, h3⟩, rfl⟩ := hv
      refine u9 _ _ ?_; clear u9
      exact ⟨r, N, rfl, rfl, h3⟩
  case call =>
    obtain ⟨r, N, rfl, rfl, h3⟩ := hv
    refine u9 _ _ ?_; clear u9
    refine CallX.perm (news' := core w.params D V ++ (N ++ FZ)) (CallX.mono (let_call (ops := ws.map some) (n := 8) rfl (fun c hc => ?_) ?_ (rm.le (by decide)) fun g' k h => ⟨hF g' k h.right, h3 g' h.left⟩) fun v m h => ?_) (by walk_at "perm")
    · obtain ⟨d, hd, e⟩ := List.mem_map.mp hc
      cases e
      exact (hlet _ hd).len
    · rw [oc_some, hc8]
      have : ws.length * 19682 ≤ 2 * 19682 := Nat.mul_le_mul_right _ hws
      omega
    · rcases h with ⟨e, n', h1, h2⟩ | ⟨e, h1, h2⟩
      · exact ⟨N, .inl ⟨e, n', h1, h2⟩⟩
      · exact ⟨N, .inr ⟨e, h1, h2⟩⟩
def QLaw (Γ : G) (fl : Flow) (s' : Shared) : Prop := ∃ l n ps, fl = .ret (.bool true) ∧ Cx Γ l n s' ∧ (964, tabObj ps) ∈ n
theorem law_st14 (hp : (Str.ofString "painter", Value.ref D.pa) ∈ l) (hpa : (D.pa, instObj 739 D.pd) ∈ news) (hpd : pdict w.params D V ∈ news) (hm : (D.mr, listOf V.ms.toArray V.nm) ∈ news) (hmk : AllR (MkR news) V.ms outs) (hcd : (L + 3, cd) ∈ news) (hcdd : cd.data = .cell (some (.ref da))) (hda : (da, listOf dvs.toArray kk) ∈ news) (hdv : AllR (fun y c => IsS c y) dvs outs)
    (hok : ∀ x ∈ outs, OkS x) (hlen : outs.length ≤ 50000) (k : ∀ Z, Ex (lawG w A s₀ g L [] base) l (Z ++ news) ((fB [108]).drop 14) Q E) : Ex (lawG w A s₀ g L [] base) l news ((fB [108]).drop 13) Q E := by
  conv => { arg 4; whnf }
  have hml := hmk.length
  have hdl := hdv.length
  refine exx_if (P := fun b n => b = false ∧ ∃ Z, n = Z ++ news) (may := False) (istx_cmpX (P := fun v n => ∃ D ys Z, v = .ref D ∧ n = (D, lstO ys) :: (Z ++ news) ∧ AllR (PrR n) ys outs) (R := fun u v n => ∃ D ys D' ys' Z, u = .ref D ∧ v = .ref D' ∧ n = (D', lstO ys') :: (Z ++ news) ∧ (D, lstO ys) ∈ n ∧ AllR (PrR n) ys outs ∧ AllR (PrR n) ys' outs)
    (EvX.perm (evx_comp (own := [(D.mr, listOf V.ms.toArray V.nm)]) (N := V.ms.toArray.size) (P := fun i v => V.ms.toArray[i]? = some v) (fun i ys n => ∃ Z, n = Z ++ news ∧ AllR (PrR n) ys (outs.take i))
      (makesW_list (ev_attr_name (ev_name (v := .ref D.pa) hp) (get_at (a_marks _) (at_new hpa hpd (by kernel_rfl) rfl))) (.inr ⟨_, .head _⟩) (fun p hp => (List.mem_singleton.mp hp ▸ hm : p ∈ news)))
      ⟨[], rfl, trivial⟩ ?own1 (by rw [List.size_toArray]; omega) (by rfl) (by kernel_rfl) (by kernel_rfl) (names_of (by kernel_rfl)) (by kernel_rfl) (by kernel_rfl) ?turn1) ?p1)
    ((hide2 fun _ u9 u n hu => ?b2)) ?cmp) (fun h => h.elim) fun c n hc => ?_
  case own1 =>
    rintro i ys n ⟨Z, rfl, -⟩ p hp
    exact List.mem_append_right _ (List.mem_singleton.mp hp ▸ hm)
  case turn1 =>
    refine hideC fun _ u9 => ?_
    rintro i v ys n t C hi hv ⟨Z, rfl, h1⟩
    refine u9 _ _ _ _ _ _ ?_; clear u9
    intro hx
    rw [List.size_toArray] at hi
    have hio : i < outs.length := hml ▸ hi
    walk_at "h"
    obtain ⟨a, t1, t2, m, rfl, hmem⟩ := hmk.get i v outs[i] (by simpa using hv) (List.getElem?_eq_getElem hio)
    walk_at "u"
    have htup : ∀ {Γ : G} s, Cx Γ l ((Z ++ news) ++ t) s → IsTup s.heap a [Value.str "image" t1, .str outs[i] t2, m].toArray := fun s C => ⟨_, C.obj (List.mem_append_left _ (List.mem_append_right _ hmem)), rfl, _, rfl⟩
    refine EvX.mono (evx_tup (evs_cons (ev_sub (hx _ _) (ev_int (x := 0)) (sub_tup (k := 0) htup rfl (by simp))) (evs_cons (ev_sub (hx _ _) (ev_int (x := 1)) (sub_tup (k := 1) htup rfl (by simp))) evs_nil)) ?sz) (hide2 fun _ u9 v n h => ?_)
    case sz =>
      intro vs h91
      walk_at "h"
      obtain ⟨_, rfl, _, ⟨_, rfl, _, rfl, rfl⟩, rfl⟩ := h91
      walk_at "u"
      simp
    obtain ⟨vs, b, ⟨_, rfl, _, ⟨_, rfl, _, rfl, rfl⟩, rfl⟩, rfl, rfl⟩ := h
    refine u9 _ _ ?_; clear u9
    refine ⟨(b, tupO [.str "image" t1, .str outs[i] t2]) :: (Z ++ news), rfl, (b, tupO [.str "image" t1, .str outs[i] t2]) :: Z, rfl, ?_⟩
    rw [List.take_succ_eq_append_getElem hio]
    exact (h1.mono fun v x ⟨a, t, t', e, hm⟩ => ⟨a, t, t', e, .tail _ hm⟩).snoc ⟨b, t1, t2, rfl, .head _⟩
  case p1 =>
    refine hide2 fun _ u9 => ?_
    rintro v n ⟨D', ys, n₁, rfl, rfl, ⟨Z, rfl, h1⟩, -⟩
    refine u9 _ _ ?_; clear u9
    rw [List.size_toArray, hml, List.take_length] at h1
    exact ⟨_, List.perm_append_comm, D', ys, Z, rfl, rfl, h1.mono fun v x ⟨a, t, t', e, hm⟩ => ⟨a, t, t', e, .tail _ hm⟩⟩
  case b2 =>
    obtain ⟨D1, ys1, Z1, rfl, rfl, g1⟩ := hu
    refine u9 _ _ ?_; clear u9
    refine EvX.perm (evx_comp (own := [(da, listOf dvs.toArray kk)]) (N := dvs.toArray.size) (P := fun i v => dvs.toArray[i]? = some v) (fun i ys n => ∃ Z, n = Z ++ ((D1, lstO ys1) :: (Z1 ++ news)) ∧ AllR (PrR n) ys (outs.take i))
      (makesW_list (ev_cell (v := .ref da) (o := cd) (c := L + 3) (by first | (walk_at "in"; done) | simp [hcd]) hcdd) (.inr ⟨_, .head _⟩) (fun p hp => (List.mem_singleton.mp hp ▸ List.mem_cons_of_mem _ (List.mem_append_right _ hda) : p ∈ (D1, lstO ys1) :: (Z1 ++ news))))
      ⟨[], rfl, trivial⟩ ?own2 (by rw [List.size_toArray]; omega) (by rfl) (by kernel_rfl) (by kernel_rfl) (names_of (by kernel_rfl)) (by kernel_rfl) (by kernel_rfl) ?turn2) ?p2
    case own2 =>
      rintro i ys n ⟨Z, rfl, -⟩ p hp
      exact List.mem_append_right _ (List.mem_cons_of_mem _ (List.mem_append_right _ (List.mem_singleton.mp hp ▸ hda)))
    case turn2 =>
      refine hideC fun _ u9 => ?_
      rintro i v ys n t C hi hv ⟨Z, rfl, h1⟩
      refine u9 _ _ _ _ _ _ ?_; clear u9
      intro hx
      rw [List.size_toArray] at hi
      have hio : i < outs.length := hdl ▸ hi
      obtain ⟨t2, rfl⟩ := hdv.get i v outs[i] (by simpa using hv) (List.getElem?_eq_getElem hio)
      refine EvX.mono (evx_tup (evs_cons (ev_str (x := "image")) (evs_cons (hx _ _) evs_nil)) ?sz) (hide2 fun _ u9 v n h => ?_)
      case sz =>
        intro vs h91
        walk_at "h"
        obtain ⟨_, -, _, ⟨_, rfl, _, rfl, rfl⟩, rfl⟩ := h91
        walk_at "u"
        simp
      obtain ⟨vs, b, ⟨_, ⟨t1, rfl⟩, _, ⟨_, rfl, _, rfl, rfl⟩, rfl⟩, rfl, rfl⟩ := h
      refine u9 _ _ ?_; clear u9
      refine ⟨(b, tupO [.str "image" t1, .str outs[i] t2]) :: (Z ++ ((D1, lstO ys1) :: (Z1 ++ news))), rfl, (b, tupO [.str "image" t1, .str outs[i] t2]) :: Z, rfl, ?_⟩
      rw [List.take_succ_eq_append_getElem hio]
      exact (h1.mono fun v x ⟨a, t, t', e, hm⟩ => ⟨a, t, t', e, .tail _ hm⟩).snoc ⟨b, t1, t2, rfl, .head _⟩
    case p2 =>
      refine hide2 fun _ u9 => ?_
      rintro v n ⟨D', ys, n₁, rfl, rfl, ⟨Z, rfl, h1⟩, -⟩
      refine u9 _ _ ?_; clear u9
      rw [List.size_toArray, hdl, List.take_length] at h1
      refine ⟨(D', lstO ys) :: ((Z ++ (D1, lstO ys1) :: Z1) ++ news), by walk_at "perm", D1, ys1, D', ys, Z ++ (D1, lstO ys1) :: Z1, rfl, rfl, rfl, by simp, g1.mono fun v x ⟨a, t, t', e, hm⟩ => ⟨a, t, t', e, ?_⟩, h1.mono fun v x ⟨a, t, t', e, hm⟩ => ⟨a, t, t', e, ?_⟩⟩
      · simp only [List.mem_cons, List.mem_append, List.append_assoc, List.cons_append] at hm ⊢
        rcases hm with h | h | h
        · exact .inr (.inr (.inl h))
        · exact .inr (.inr (.inr (.inl h)))
        · exact .inr (.inr (.inr (.inr h)))
      · simp only [List.mem_cons, List.mem_append, List.append_assoc, List.cons_append] at hm ⊢
        exact .inr hm
  case cmp =>
    intro u v n h93
    walk_at "h"
    obtain ⟨D1, ys1, D2, ys2, Z, rfl, rfl, rfl, g0, g1, g2⟩ := h93
    walk_at "u"
    exact Run.mono (cmp_lists (d := prD outs) (fun s C => ⟨_, C.obj g0, rfl, _, rfl⟩) (fun s C => ⟨_, C.obj (.head _), rfl, _, rfl⟩) (fun s C => pr_reads (fun p hp => C.obj hp) g1) (fun s C => pr_reads (fun p hp => C.obj hp) g2) (pr_lay hok) (pr_depth _)).1 fun r hr => ⟨false, hr, rfl, (D2, lstO ys2) :: Z, rfl⟩
  obtain ⟨rfl, Z, rfl⟩ := hc
  rw [if_neg (by decide)]
  exact k Z
end
noncomputable def cmp16 : Expr := match (fB [108] : List Stmt)[15]? with
  | some (Stmt.Return (some (Expr.BoolOp _ [_, e] _)) _) => e
  | _ => .Constant .none 0 ⟨0, 0, 0, 0⟩
section
variable {w : World} {A : Around} {s₀ : Shared} {g base : Heap} {L : Addr} {Q : Flow → Shared → Prop} {E : Value → Shared → Prop} {l : List (Str × Value)} {D : PD} {V : PV} {W : WorldD} {hl : Nat → Addr} {nm : Str → Option Nat} {FZ news : List (Addr × Obj)} {pg da : Addr} {pys dvs : List Value} {ws outs : List Str} {kk : Nat} {cd : Obj}
theorem law_cmp16 (hp : (Str.ofString "painter", Value.ref D.pa) ∈ l) (hpa : (D.pa, instObj 739 D.pd) ∈ news) (hpd : pdict w.params D V ∈ news) (hm : (D.mr, listOf V.ms.toArray V.nm) ∈ news) (hmk : AllR (MkR news) V.ms (outs ++ outs)) (hcd : (L + 3, cd) ∈ news) (hcdd : cd.data = .cell (some (.ref da))) (hda : (da, listOf dvs.toArray kk) ∈ news) (hdv : AllR (fun y c => IsS c y) dvs outs)
    (hok : ∀ x ∈ outs, OkS x) (hlen : outs.length ≤ 40000) : EvX (lawG w A s₀ g L [] base) l news cmp16 (fun v n => v = .bool true ∧ ∃ Z, n = Z ++ news) False := by
  conv => { arg 4; whnf }
  have hml := hmk.length
  have hdl := hdv.length
  have hok2 : ∀ x ∈ outs ++ outs, OkS x := fun x hx => by rcases List.mem_append.mp hx with h | h <;> exact hok x h
  rw [List.length_append] at hml
  refine evx_cmpX (P := fun v n => ∃ D ys, v = .ref D ∧ n = (D, lstO ys) :: news ∧ AllR (fun y c => IsS c y) ys (outs ++ outs)) (R := fun u v n => ∃ D ys D' Z, u = .ref D ∧ v = .ref D' ∧ n = (D', listOf (dvs ++ dvs).toArray 0) :: (Z ++ news) ∧ (D, lstO ys) ∈ n ∧ AllR (fun y c => IsS c y) ys (outs ++ outs))
    (EvX.perm (evx_comp (own := [(D.mr, listOf V.ms.toArray V.nm)]) (N := V.ms.toArray.size) (P := fun i v => V.ms.toArray[i]? = some v) (fun i ys n => n = news ∧ AllR (fun y c => IsS c y) ys ((outs ++ outs).take i))
      (makesW_list (ev_attr_name (ev_name (v := .ref D.pa) hp) (get_at (a_marks _) (at_new hpa hpd (by kernel_rfl) rfl))) (.inr ⟨_, .head _⟩) (fun p hp => (List.mem_singleton.mp hp ▸ hm : p ∈ news)))
      ⟨rfl, trivial⟩ ?own1 (by rw [List.size_toArray]; omega) (by rfl) (by kernel_rfl) (by kernel_rfl) (names_of (by kernel_rfl)) (by kernel_rfl) (by kernel_rfl) ?turn1) ?p1)
    ((hide2 fun _ u9 u n hu => ?b2)) ?cmp
  case own1 =>
    rintro i ys n ⟨rfl, -⟩ p hp
    exact List.mem_singleton.mp hp ▸ hm
  case turn1 =>
    refine hideC fun _ u9 => ?_
    rintro i v ys n t C hi hv ⟨rfl, h1⟩
    refine u9 _ _ _ _ _ _ ?_; clear u9
    intro hx
    rw [List.size_toArray] at hi
    have hio : i < (outs ++ outs).length := by rw [List.length_append]; omega
    walk_at "h"
    obtain ⟨a, t1, t2, m, rfl, hmem⟩ := hmk.get i v (outs ++ outs)[i] (by simpa using hv) (List.getElem?_eq_getElem hio)
    walk_at "u"
    have htup : ∀ {Γ : G} s, Cx Γ l (n ++ t) s → IsTup s.heap a [Value.str "image" t1, .str (outs ++ outs)[i] t2, m].toArray := fun s C => ⟨_, C.obj (List.mem_append_left _ hmem), rfl, _, rfl⟩
    refine EvX.mono (evx_of (ev_sub (hx _ _) (ev_int (x := 1)) (sub_tup (k := 1) htup rfl (by simp)))) fun v n' h => ?_
    obtain ⟨rfl, rfl⟩ := h
    refine ⟨n, rfl, rfl, ?_⟩
    rw [List.take_succ_eq_append_getElem hio]
    exact h1.snoc ⟨t2, rfl⟩
  case p1 =>
    refine hide2 fun _ u9 => ?_
    rintro v n ⟨D', ys, n₁, rfl, rfl, ⟨rfl, h1⟩, -⟩
    refine u9 _ _ ?_; clear u9
    rw [List.size_toArray, hml, ← List.length_append, List.take_length] at h1
    exact ⟨_, List.perm_append_comm, D', ys, rfl, rfl, h1⟩
  case b2 =>
    obtain ⟨D1, ys1, rfl, rfl, g1⟩ := hu
    refine u9 _ _ ?_; clear u9
    refine EvX.mono (evn_addl2 (xs := dvs) (ys := dvs) (d1 := da) (P := fun v n => v = .ref da ∧ n = []) (ev_cell (v := .ref da) (o := cd) (c := L + 3) (.tail _ hcd) hcdd) (fun n₁ s C => ⟨_, C.obj (List.mem_append_right _ (.tail _ hda)), rfl, _, rfl⟩)
      (EvN.mono (evn_of (ev_cell (v := .ref da) (o := cd) (c := L + 3) (.tail _ hcd) hcdd)) fun v n h => h) (fun v n₁ h => ⟨da, h.1, fun s C => ⟨_, C.obj (List.mem_append_right _ (.tail _ hda)), rfl, _, rfl⟩⟩) (by omega)) (hide2 fun _ u9 v n h => ?_)
    obtain ⟨n₁, rfl, D2, n₂, rfl, rfl⟩ := h
    refine u9 _ _ ?_; clear u9
    exact ⟨D1, ys1, D2, n₂ ++ [(D1, lstO ys1)], rfl, rfl, by simp, by simp, g1⟩
  case cmp =>
    intro u v n h93
    walk_at "h"
    obtain ⟨D1, ys1, D2, Z, rfl, rfl, rfl, g0, g1⟩ := h93
    walk_at "u"
    exact Run.mono (cmp_lists (d := stD (outs ++ outs)) (fun s C => ⟨_, C.obj g0, rfl, _, rfl⟩) (fun s C => ⟨_, C.obj (.head _), rfl, _, rfl⟩) (fun s C => st_reads g1) (fun s C => st_reads (hdv.app hdv)) (st_lay hok2) (st_depth _)).2 fun r hr => ⟨hr, (D2, _) :: Z, rfl⟩
theorem law_s12 {b : Bool} {shv cv sov sv : Value} {count : Nat} (rm : Room (A.deeper (lawEnv L)) 60) (hws : ws.length ≤ 2) (hlet : ∀ c ∈ ws, Letter c) (hpys : AllR (fun y c => IsS c y) pys ws) (hpg : (pg, lstO pys) ∈ FZ) (hWok : ∀ k F, W k = some F → ∀ c ∈ F.wishes, Letter c)
    (hF : ∀ g', (∀ b o, g.get? b = some o → g'.get? b = some o) → Std FZ g' → PaintF w g' W D V hl nm [] 8 (OpnF w hl W D.op)) (hms : V.ms = []) (hcs : V.cs = []) (hpa : (D.pa, instObj 739 D.pd) ∈ FZ) (htab : ∃ ps, ((964 : Addr), tabObj ps) ∈ FZ)
    (hcd : (L + 3, cd) ∈ FZ) (hcdd : cd.data = .cell (some (.ref da))) (hda : (da, listOf dvs.toArray kk) ∈ FZ) (hdl : dvs.length ≤ 2 * cost 8) (hres : WkRes W nm ws b dvs) :
    Ex (lawG w A s₀ g L [] base) [(Str.ofString "painter", .ref D.pa), (Str.ofString "is_right", .bool b), (Str.ofString "shelf", shv), (Str.ofString "page", .ref pg), (Str.ofString "count", cv), (Str.ofString "source", sov), (Str.ofString "script", sv)] (core w.params D V ++ FZ) ((fB [108]).drop 11) (QLaw (lawG w A s₀ g L [] base)) E := by
  conv => { arg 4; whnf }
  have hc8 : cost 8 = 19682 := by decide
  obtain ⟨ps, hps⟩ := htab
  have hbool : ∀ {u n}, LetP w W nm ws D V FZ u n → u = .bool b := fun {u n} h => by
    unfold WkRes at hres
    rcases h with ⟨N, ⟨rfl, n', ⟨-, out, objs, V', e, -⟩, -⟩ | ⟨rfl, e, -⟩⟩
    · unfold wk at e
      rw [e] at hres
      rw [hres.1]
    · unfold wk at e
      rw [e] at hres
      rw [hres]
  refine exx_if (P := fun t n => t = false ∧ ∃ u, LetP w W nm ws D V FZ u n) (may := False) (istx_cmpX (P := LetP w W nm ws D V FZ) (R := fun u v n => LetP w W nm ws D V FZ u n ∧ v = .bool b) (let_x rm hws hlet hpys hpg (by walk_at "mem") (by walk_at "mem") hF (by rw [hms, hcs]; decide)) (fun u n hu => EvX.mono (evx_of (ev_name (v := .bool b) (by walk_at "mem"))) fun v m h => by
      obtain ⟨rfl, rfl⟩ := h
      exact ⟨hu, rfl⟩) fun u v n h => ?cmp) (fun h => h.elim) fun c n hc => ?_
  case cmp =>
    obtain ⟨h, rfl⟩ := h
    have := hbool h
    subst this
    exact Run.of fun s Q E C q => PyProof.Rows.ne_bool (q _ s.toks ⟨b != b, rfl, by cases b <;> rfl, _, h⟩)
  obtain ⟨rfl, u, hL⟩ := hc
  rw [if_neg (by decide)]
  cases hwk : wk W nm ws with
  | none =>
    have hb : b = false := by unfold WkRes at hres; unfold wk at hwk; rw [hwk] at hres; exact hres
    subst hb
    refine ex_if_t (ist_not (b := false) (ist_bool (by walk_at "nm" : Ev _ _ _ _ (· = Value.bool false))) (by rfl)) ?_
    refine ex_ret ev_bool fun v s hv C => ⟨_, _, ps, by rw [hv], C, ?_⟩
    rcases hL with ⟨N, ⟨-, n', -, rfl⟩ | ⟨-, -, rfl⟩⟩
    · exact List.mem_append_right _ (List.mem_append_right _ hps)
    · exact List.mem_append_right _ hps
  | some out =>
    have hb : b = true ∧ AllR (fun y c => IsS c y) dvs out := by unfold WkRes at hres; unfold wk at hwk; rw [hwk] at hres; exact hres
    obtain ⟨rfl, hdv⟩ := hb
    have hdo := hdv.length
    refine ex_if_f (ist_not (b := true) (ist_bool (by walk_at "nm" : Ev _ _ _ _ (· = Value.bool true))) (by rfl)) ?_
    rcases hL with ⟨N, ⟨-, n', ⟨-, out', objs, V', e1, hmo, rfl, haf⟩, rfl⟩ | ⟨-, e, -⟩⟩
    rotate_left
    · rw [hwk] at e; cases e
    rw [hwk] at e1
    cases e1
    have hok : ∀ x ∈ out, OkS x := walks_ok (fun c hc a ha => walk_ok hWok 8 c _ _ a (by
      obtain ⟨d, hd, e⟩ := List.mem_map.mp hc
      cases e
      exact hlet _ hd) ha) hwk
    have hms' : V'.ms = objs.map fun p => Value.ref p.1 := by rw [haf.ms, hms]; rfl
    have hcs' : V'.cs.length = objs.length := by rw [haf.cs, hcs]; simp
    have hol := hmo.length
    refine law_st14 (D := D) (V := V') (outs := out) (cd := cd) (da := da) (dvs := dvs) (kk := kk) (by walk_at "mem") (by first | (walk_at "in"; done) | simp [hpa]) (by simp) (by simp) (by rw [hms']; exact hmo.allR _ fun p hp => by simp [hp]) (by first | (walk_at "in"; done) | simp [hcd]) hcdd (by first | (walk_at "in"; done) | simp [hda]) hdv hok (by omega) fun Z => ?_
    conv => { arg 4; whnf }
    have hlen : ∀ {l : List (Str × Value)} {p1 p2 p3 : Pos}, Ev (lawG w A s₀ g L [] base) l (Z ++ (core w.params D V' ++ objs ++ (N ++ FZ))) (.Call (.Name "len" p1) [.Name "due" p2] [] p3) (IsI (dvs.length : Int)) := fun {l p1 p2 p3} =>
      ev_b1 (ev_bltn (b_len _) (b_len' _)) (ev_cell (v := .ref da) (o := cd) (c := L + 3) (by first | (walk_at "in"; done) | simp [hcd]) hcdd) fun v hv => by
        subst hv
        exact len_list' (fun s C => ⟨_, C.obj (by simp [hda] : (da, listOf dvs.toArray kk) ∈ _), rfl, _, rfl⟩) (by omega)
    by_cases h24 : 24 < dvs.length
    · refine ex_if_t (ist_cmp hlen (ev_int (x := 24)) (cmp_int (by simp [icmp]; omega))) ?_
      exact ex_ret ev_bool fun v s hv C => ⟨_, _, ps, by rw [hv], C, by simp [hps]⟩
    · refine ex_if_f (ist_cmp hlen (ev_int (x := 24)) (cmp_int (by simp [icmp]; omega))) ?_
      refine Ex.perm (news' := core w.params D V' ++ (Z ++ objs ++ (N ++ FZ))) ?_ (by walk_at "perm")
      refine exx_ret (P := fun v n => v = .bool true ∧ ((964 : Addr), tabObj ps) ∈ n) (may := False) (evx_and (P1 := fun n => ∃ n' N2, PostM w.params D V' (wk W nm ws) .none n' ∧ n = n' ++ (N2 ++ (Z ++ objs ++ (N ++ FZ))))
        (EvX.mono (let_x (pg := pg) (V := V') (FZ := Z ++ objs ++ (N ++ FZ)) rm hws hlet hpys (by first | (walk_at "in"; done) | simp [hpg]) (by walk_at "mem") (by walk_at "mem") (fun g' k h => (hF g' k h.right.right).next haf (by rw [hms', hcs', List.length_map]; omega)) (by rw [hms', hcs', List.length_map]; omega)) ?pl) (hide1 fun _ u9 n hn => ?sec)) (fun h => h.elim) fun v n s hv C => ⟨_, _, ps, by rw [hv.1], C, hv.2⟩
      case pl =>
        refine hide2 fun _ u9 => ?_
        rintro v n ⟨N2, ⟨rfl, n', h1, rfl⟩ | ⟨-, e, -⟩⟩
        refine u9 _ _ ?_; clear u9
        · exact ⟨rfl, n', N2, h1, rfl⟩
        · rw [hwk] at e; cases e
      case sec =>
        obtain ⟨n', N2, ⟨-, out2, objs2, V2, e2, hmo2, rfl, haf2⟩, rfl⟩ := hn
        refine u9 _ ?_; clear u9
        rw [hwk] at e2
        cases e2
        have hms2 : V2.ms = (objs.map fun p => Value.ref p.1) ++ objs2.map fun p => Value.ref p.1 := by rw [haf2.ms, hms']
        refine EvX.mono (law_cmp16 (D := D) (V := V2) (outs := out) (cd := cd) (da := da) (dvs := dvs) (kk := kk) (by walk_at "mem") (by first | (walk_at "in"; done) | simp [hpa]) (by simp) (by simp) (by rw [hms2]; exact (hmo.allR _ fun p hp => by simp [hp]).app (hmo2.allR _ fun p hp => by simp [hp])) (by first | (walk_at "in"; done) | simp [hcd]) hcdd (by first | (walk_at "in"; done) | simp [hda]) hdv hok (by omega)) (hide2 fun _ u9 v n h => ?_)
        obtain ⟨h1, Z2, rfl⟩ := h
        refine u9 _ _ ?_; clear u9
        exact ⟨h1, by simp [hps]⟩
end
theorem g_builtins (P : Params) : nsIn (KL P) mainGlobals "__builtins__" = some (some (.ref 4)) := by kernel_rfl
section
variable {w : World} {A : Around} {s₀ : Shared} {g base : Heap} {L : Addr} {EE : Value → Shared → Prop}
theorem law_s11 {wa na sa tb hd pg da : Addr} {cw cn cd ch ot ohd : Obj} {b : Bool} {cv sov sv : Value} {count kk : Nat} {Y : List (Addr × Obj)} {wkvs tkvs hkvs : List (Int × Value)} {nkvs : List (Str × Value)} {nl : List (Str × Nat)} {rl : List (Nat × Rec)} {pys dvs : List Value} {ws : List Str}
    (rm : Room (A.deeper (lawEnv L)) 60) (h4 : g.get? 4 = some J04) (h469 : g.get? 469 = some J7w) (hC : CodeHd g 966 964)
    (hcw : (L + 1, cw) ∈ Y) (hcwd : cw.data = .cell (some (.ref wa))) (hcn : (L + 2, cn) ∈ Y) (hcnd : cn.data = .cell (some (.ref na))) (hcd : (L + 3, cd) ∈ Y) (hcdd : cd.data = .cell (some (.ref da))) (hch : (L + 4, ch) ∈ Y) (hchd : ch.data = .cell (some (.ref hd)))
    (hc10 : count ≤ 10) (hwl : Wl count count wkvs rl) (hYf : ∀ g', Std Y g' → WdF w g' wa count (worldOf rl) ∧ SD w (PySem.strKind prg w) g' na nkvs) (hnk : AllR KvR nkvs nl) (hnl : NmL count nl)
    (hYt : ∀ g', Std Y g' → TbF w g' (worldOf rl) tkvs rl ∧ HdF g' hkvs rl) (htb : (tb, ot) ∈ Y) (hot : ot.IsDictOf (PySem.intKind prg w) tkvs) (htbm : (tb == sysModules) = false) (hhd : (hd, ohd) ∈ Y) (hohd : ohd.IsDictOf (PySem.intKind prg w) hkvs) (hhdm : (hd == sysModules) = false)
    (hsh : ∀ g', Std Y g' → ShF g' sa tb) (hws : ws.length ≤ 2) (hlet : ∀ c ∈ ws, Letter c) (hpys : AllR (fun y c => IsS c y) pys ws) (hpg : (pg, lstO pys) ∈ Y) (hda : (da, listOf dvs.toArray kk) ∈ Y) (hdl : dvs.length ≤ 2 * cost 8) (hres : WkRes (worldOf rl) (nmF nl) ws b dvs) :
    Ex (lawG w A s₀ g L [] base) [(Str.ofString "is_right", .bool b), (Str.ofString "shelf", .ref sa), (Str.ofString "page", .ref pg), (Str.ofString "count", cv), (Str.ofString "source", sov), (Str.ofString "script", sv)] (((964 : Addr), tabObj #[]) :: Y) ((fB [108]).drop 10) (QLaw (lawG w A s₀ g L [] base)) EE := by
  conv => { arg 4; whnf }
  refine exx_assign (P := fun v m => ∃ x dx re f c' oc pm ctv cvs ct N1 n₁ ps, v = .ref x ∧ PaO w x dx (.ref sa) (.ref re) (.ref f) n₁ ∧ m = n₁ ++ ((f, kla_obj "<lambda>" lamQ lamA lamB lamS [(Str.ofString "held", L + 4)] pm c' ctv) :: (c', oc) :: ((964 : Addr), tabObj ps) :: (N1 ++ Y)) ∧ (∀ g', Std N1 g' → Res w g' (worldOf rl) re (nmF nl)) ∧ oc.data = .fields cvs ∧ cvs[1]? = some (.str lamQ ct)) (may := False)
    (EvX.mono (evx_instX (F := F_Painter_init) (k := 8) (R := fun vs m => ∃ re f c' oc pm ctv cvs ct N1 ps, vs = [.ref sa, .ref re, .ref f] ∧ m = (f, kla_obj "<lambda>" lamQ lamA lamB lamS [(Str.ofString "held", L + 4)] pm c' ctv) :: (c', oc) :: ((964 : Addr), tabObj ps) :: (N1 ++ Y) ∧ (∀ g', Std N1 g' → Res w g' (worldOf rl) re (nmF nl)) ∧ oc.data = .fields cvs ∧ cvs[1]? = some (.str lamQ ct))
      (Pi := fun vs x dx n => ∃ sh re op, vs = [sh, re, op] ∧ PaO w x dx sh re op n) (mk_Painter _) (kp_Painter _) (ev_glob (g_Painter _)) ?args ?ini (rm.le (by decide))) ?post) (fun h => h.elim) (by kernel_rfl) (by walk_at "sub") (by kernel_rfl) (hide2 fun _ u9 v m hv => ?_)
  case args =>
    refine EvsX.mono (evsx_cons (R := fun _ _ u m => ∃ re f c' oc pm ctv cvs ct N1 ps, u = [.ref re, .ref f] ∧ m = (f, kla_obj "<lambda>" lamQ lamA lamB lamS [(Str.ofString "held", L + 4)] pm c' ctv) :: (c', oc) :: ((964 : Addr), tabObj ps) :: (N1 ++ Y) ∧ (∀ g', Std N1 g' → Res w g' (worldOf rl) re (nmF nl)) ∧ oc.data = .fields cvs ∧ cvs[1]? = some (.str lamQ ct))
      (evx_of (by walk_at "nm" : Ev _ _ _ _ (· = Value.ref sa))) (hide2 fun _ u9 v n hv => ?a2)) (hide2 fun _ u9 vs m hv => ?f1)
    case f1 =>
      obtain ⟨v, n, u, ⟨rfl, rfl⟩, ⟨re, f, c', oc, pm, ctv, cvs, ct, N1, ps, rfl, h⟩, rfl⟩ := hv
      refine u9 _ _ ?_; clear u9
      exact ⟨re, f, c', oc, pm, ctv, cvs, ct, N1, ps, rfl, h⟩
    case a2 =>
      obtain ⟨rfl, rfl⟩ := hv
      refine u9 _ _ ?_; clear u9
      refine EvsX.mono (evsx_cons (P := fun v m => ∃ re N1, v = .ref re ∧ m = ((964 : Addr), tabObj #[]) :: (N1 ++ Y) ∧ ∀ g', Std N1 g' → Res w g' (worldOf rl) re (nmF nl)) (R := fun v n u m => ∃ re f c' oc pm ctv cvs ct N1 ps, v = .ref re ∧ u = [.ref f] ∧ m = (f, kla_obj "<lambda>" lamQ lamA lamB lamS [(Str.ofString "held", L + 4)] pm c' ctv) :: (c', oc) :: ((964 : Addr), tabObj ps) :: (N1 ++ Y) ∧ (∀ g', Std N1 g' → Res w g' (worldOf rl) re (nmF nl)) ∧ oc.data = .fields cvs ∧ cvs[1]? = some (.str lamQ ct))
        (evx_ct G_law_entries (ev_glob (g_law_entries _)) (evsn_cons (evn_of (ev_cell (v := .ref na) (o := cn) (c := L + 2) (by first | (walk_at "in"; done) | simp [hcn]) hcnd)) fun _ _ _ => evsn_cons (evn_of (ev_cell (v := .ref wa) (o := cw) (c := L + 1) (by first | (walk_at "in"; done) | simp [hcw]) hcwd)) fun _ _ _ => evsn_nil) (hide2 fun _ u9 vs n hv => ?ce))
        (hide2 fun _ u9 v n hv => ?a3)) (hide2 fun _ u9 vs m hv => ?f2)
      case ce =>
        obtain ⟨_, _, _, _, ⟨rfl, rfl⟩, ⟨_, _, _, _, ⟨rfl, rfl⟩, ⟨rfl, rfl⟩, rfl, rfl⟩, rfl, rfl⟩ := hv
        refine u9 _ _ ?_; clear u9
        refine ⟨[], ((964 : Addr), tabObj #[]) :: Y, _, _, 3, by walk_at "perm", law_entries (count := count) hnk hnl, rm.le (by decide), fun g' _ h => ⟨(hYf g' fun p hp => h p (.tail _ hp)).2, (hYf g' fun p hp => h p (.tail _ hp)).1⟩, fun v n₁ h => ?_⟩
        obtain ⟨r, e1, h⟩ := h
        exact ⟨_, by walk_at "perm", r, n₁, e1, rfl, h⟩
      case f2 =>
        obtain ⟨v, n, u, -, ⟨re, f, c', oc, pm, ctv, cvs, ct, N1, ps, rfl, rfl, h⟩, rfl⟩ := hv
        refine u9 _ _ ?_; clear u9
        exact ⟨re, f, c', oc, pm, ctv, cvs, ct, N1, ps, rfl, h⟩
      case a3 =>
        obtain ⟨re, N1, rfl, rfl, h1⟩ := hv
        refine u9 _ _ ?_; clear u9
        refine EvsX.mono (evsx_cons (R := fun _ m u m' => u = [] ∧ m' = m) (evx_lambda (c := 966) (P := 964) (ps := #[]) (clos := [(Str.ofString "held", L + 4)]) (bm := 4) (ob := J04) (by rfl) (by rfl) (by rfl) hC trivial (by rfl) (by decide) (g_builtins _) (by decide) (by decide) (by decide) h4 (by rfl) (by rfl) (by rfl)) fun v n h => evsx_of (R := (· = [])) evs_nil) (hide2 fun _ u9 vs m hv => ?_)
        obtain ⟨v, n, u, ⟨f, c', oc, pm, ctv, cvs, ct, rfl, rfl, h2, h3⟩, ⟨rfl, rfl⟩, rfl⟩ := hv
        refine u9 _ _ ?_; clear u9
        exact ⟨re, f, c', oc, pm, ctv, cvs, ct, N1, _, rfl, rfl, rfl, h1, h2, h3⟩
  case ini =>
    refine hide2 fun _ u9 => ?_
    rintro vs n ⟨re, f, c', oc, pm, ctv, cvs, ct, N1, ps, rfl, -⟩
    refine u9 _ _ ?_; clear u9
    intro x dx
    exact fun A outer base g s R Pr room hf hQ hE => Painter_init A outer base g s R Pr room hf (fun u n s' hp B => hQ u n s' ⟨hp.1, _, _, _, rfl, hp.2⟩ B) hE
  case post =>
    refine hide2 fun _ u9 => ?_
    rintro v m ⟨vs, n₀, x, dx, n₁, ⟨re, f, c', oc, pm, ctv, cvs, ct, N1, ps, rfl, rfl, h1, h2, h3⟩, rfl, ⟨sh, re', op, e, h4⟩, rfl⟩
    refine u9 _ _ ?_; clear u9
    cases e
    exact ⟨x, dx, re, f, c', oc, pm, ctv, cvs, ct, N1, n₁, ps, rfl, h4, rfl, h1, h2, h3⟩
  obtain ⟨x, dx, re, f, c', oc, pm, ctv, cvs, ct, N1, n₁, ps, rfl, hpa, rfl, hN1, hoc, hcv⟩ := hv
  refine u9 _ _ ?_; clear u9
  walk_at "h"
  obtain ⟨tk, st, stn, pl, xa, xd, fo, mr, cp, tf, tr, ts, tp, kp, kd, rfl, hst⟩ := hpa
  walk_at "u"
  walk_at "h"
  obtain ⟨D, hD⟩ : ∃ D : PD, D = ⟨x, dx, mr, cp, fo, xa, 469, sa, tb, .ref f, .str "" tr⟩ := ⟨_, rfl⟩
  walk_at "u"
  walk_at "h"
  obtain ⟨V, hV⟩ : ∃ V : PV, V = ⟨tk, kd, .ref re, st, .int 0 tf, .int 0 ts, [], [], [], 0, 0, 0, pl, 0⟩ := ⟨_, rfl⟩
  walk_at "u"
  obtain ⟨FZ, hFZ⟩ : ∃ FZ : List (Addr × Obj), FZ = (x, instObj 739 dx) :: (stn ++ (xa, instObj 480 xd) :: (xd, dictOf [E w.params "parts" tp (.ref 469)] kp) :: (f, kla_obj "<lambda>" lamQ lamA lamB lamS [(Str.ofString "held", L + 4)] pm c' ctv) :: (c', oc) :: ((964 : Addr), tabObj ps) :: (N1 ++ Y)) := ⟨_, rfl⟩
  have hYZ : ∀ p ∈ Y, p ∈ FZ := fun p hp => by rw [hFZ]; simp [hp]
  refine Ex.perm (news' := core w.params D V ++ FZ) ?_ (by subst hD hV hFZ; unfold core pdict; dsimp only; walk_at "perm")
  have hx : Value.ref x = .ref D.pa := by rw [hD]
  rw [hx]
  refine law_s12 (W := worldOf rl) (nm := nmF nl) (hl := hlOf hkvs) (pg := pg) (pys := pys) (ws := ws) (cd := cd) (da := da) (dvs := dvs) (kk := kk) (count := count) rm hws hlet hpys (hYZ _ hpg) (fun k F hF => ?_) (fun g' hk hg => ?_) (by rw [hV]) (by rw [hV]) (by rw [hD, hFZ]; exact .head _) ⟨ps, by rw [hFZ]; simp⟩ (hYZ _ hcd) hcdd (hYZ _ hda) hdl hres
  · walk_at "h"
    obtain ⟨r, h1, rfl, _⟩ := worldOf_some hF
    walk_at "u"
    exact (hwl.ok _ h1).2.1
  · have hgY : Std Y g' := fun p hp => hg p (hYZ p hp)
    obtain ⟨t1, t2⟩ := hYt g' hgY
    have sdt : SD w (PySem.intKind prg w) g' tb tkvs := ⟨Heap.dictOf_iff.mpr ⟨ot, hgY _ htb, hot⟩, htbm⟩
    have sdh : SD w (PySem.intKind prg w) g' hd hkvs := ⟨Heap.dictOf_iff.mpr ⟨ohd, hgY _ hhd, hohd⟩, hhdm⟩
    subst hD hV
    rw [hFZ] at hg
    refine ⟨⟨hg _ (.head _), ⟨xd, _, kp, hg (xa, instObj 480 xd) (by simp), hg (xd, dictOf [E w.params "parts" tp (.ref 469)] kp) (by simp), by kernel_rfl, rfl⟩, ⟨0, hk _ _ h469⟩, hsh g' hgY⟩, hst.sf fun p hp => hg p (by first | (walk_at "in"; done) | simp [hp]), ⟨re, rfl, hN1 g' fun p hp => hg p (by first | (walk_at "in"; done) | simp [hp])⟩, rfl, rfl, rfl,
      ⟨f, c', L + 4, hd, hkvs, pm, ctv, rfl, hg (f, _) (by simp), ⟨c', oc, cvs, ct, rfl, hg (c', oc) (by simp), hoc, hcv⟩, ⟨ch, hgY _ hch, hchd⟩, sdh, fun k F hF => (form_at hwl hc10 t1 t2 sdt hF).2.2.2.2⟩, fun k F hF => ?_, ⟨[], rfl, rfl, fun i a k e => nomatch e⟩, rfl, (by decide : 0 + cost 8 ≤ 90000), (by decide : 0 + cost 8 ≤ 90000)⟩
    have z := form_at hwl hc10 t1 t2 sdt hF
    exact ⟨z.1, z.2.1, z.2.2.1, z.2.2.2.1⟩
end
section
variable {w : World} {A : Around} {s₀ : Shared} {g base : Heap} {L : Addr}
theorem law_body {scr : Addr} {vs : List Value} {cs : List Int} {ow on od oh : Obj} (rm : Room (A.deeper (lawEnv L)) 60) (h4 : g.get? 4 = some J04) (h469 : g.get? 469 = some J7w) (hC : CodeHd g 966 964) (hscr : g.IsList scr vs.toArray) (hvs : AllR (fun v c => IsI c v) vs cs) (hz : cs.length ≤ 63)
    (dw : ow.data = .cell none) (dn : on.data = .cell none) (dd : od.data = .cell none) (dh : oh.data = .cell none) :
    Ex (lawG w A s₀ g L [] base) [(Str.ofString "script", .ref scr)] [(L + 1, ow), (L + 2, on), (L + 3, od), (L + 4, oh), ((964 : Addr), tabObj #[])] (fB [108]) (QLaw (lawG w A s₀ g L [] base)) (fun e s' => False ∧ Flies (lawG w A s₀ g L [] base) e s') := by
  conv => { arg 4; whnf }
  -- source
  refine exx_assign (P := fun v n => ∃ so ca oS objs, v = .ref so ∧ n = (so, oS) :: (objs ++ [(L + 1, ow), (L + 2, on), (L + 3, od), (L + 4, oh), ((964 : Addr), tabObj #[])]) ∧ SrcO ca 0 oS ∧ ∀ g', Std objs g' → SrcF g' ca) (may := False)
    (evx_ct G_law_source (ev_glob (g_law_source _)) (evsn_cons (evn_of (by walk_at "nm" : Ev _ _ _ _ (· = Value.ref scr))) fun _ _ _ => evsn_nil) (hide2 fun _ u9 vs n hv => ?c1)) (fun h => h.elim) (by kernel_rfl) (by walk_at "sub") (by kernel_rfl) (hide2 fun _ u9 v n hv => ?_)
  case c1 =>
    obtain ⟨_, _, _, _, ⟨rfl, rfl⟩, ⟨rfl, rfl⟩, rfl, rfl⟩ := hv
    refine u9 _ _ ?_; clear u9
    refine ⟨[], [(L + 1, ow), (L + 2, on), (L + 3, od), (L + 4, oh), ((964 : Addr), tabObj #[])], _, _, 2, by walk_at "perm", law_source hvs hz, rm.le (by decide), fun g' k _ => isList_keeps hscr k, fun v n₁ h => ?_⟩
    walk_at "h"
    obtain ⟨so, ca, oS, objs, rfl, rfl, h1, h2⟩ := h
    walk_at "u"
    exact ⟨_, .refl _, so, ca, oS, objs, rfl, rfl, h1, h2⟩
  obtain ⟨so, ca, oS, objs, rfl, rfl, hS, hO⟩ := hv
  refine u9 _ _ ?_; clear u9
  -- count
  refine exx_assign (P := fun v n => ∃ (j : Nat) (oS' : Obj), IsI (1 + ((j : Nat) : Int)) v ∧ j < 10 ∧ n = (so, oS') :: (objs ++ [(L + 1, ow), (L + 2, on), (L + 3, od), (L + 4, oh), ((964 : Addr), tabObj #[])]) ∧ SrcO ca 1 oS') (may := False)
    (EvX.mono (evx_addI (x := 1) (R := fun y n => ∃ (j : Nat) (oS' : Obj), y = ((j : Nat) : Int) ∧ j < 10 ∧ n = (so, oS') :: (objs ++ [(L + 1, ow), (L + 2, on), (L + 3, od), (L + 4, oh), ((964 : Addr), tabObj #[])]) ∧ SrcO ca 1 oS') ev_int (EvX.mono (take_x (lim := 10) (rm.le (by decide)) (fun g' h => hO g' h.left) hS (by omega) (by decide) (by walk_at "mem") (by rfl)) fun v n h => by
        walk_at "h"
        obtain ⟨j, h1, h2, o', h3, h4⟩ := h
        walk_at "u"
        exact ⟨_, h1, j, o', rfl, h2, h3, h4⟩)) fun v n h => by
      obtain ⟨y, h1, j, oS', rfl, h2, h3, h4⟩ := h
      exact ⟨j, oS', h1, h2, h3, h4⟩) (fun h => h.elim) (by kernel_rfl) (by walk_at "sub") (by kernel_rfl) (hide2 fun _ u9 v n hv => ?_)
  obtain ⟨j, oS2, ⟨tc, rfl⟩, hj, rfl, hS2⟩ := hv
  refine u9 _ _ ?_; clear u9
  obtain ⟨count, hcount⟩ : ∃ count : Nat, count = 1 + j := ⟨_, rfl⟩
  have hc : 1 ≤ count ∧ count ≤ 10 := by omega
  rw [show (1 + ((j : Nat) : Int)) = ((count : Nat) : Int) by rw [hcount]; push_cast; rfl]
  -- world = {}
  refine exx_assign_cell (P := fun v n => ∃ wa owd, v = .ref wa ∧ n = ((so, oS2) :: (objs ++ [(L + 1, ow), (L + 2, on), (L + 3, od), (L + 4, oh), ((964 : Addr), tabObj #[])])) ++ [(wa, owd)] ∧ (wa == sysModules) = false ∧ owd.IsDictOf (PySem.intKind prg w) ([] : List (Int × Value))) (may := False)
    (EvX.mono evx_dict0 <| hide2 fun _ u9 v n h => by
      obtain ⟨d, o, h1, h2, h3, -, h4⟩ := h
      refine u9 _ _ ?_; clear u9
      exact ⟨d, o, h1, h2, h3, h4⟩) (fun h => h.elim) (by kernel_rfl) (hide2 fun _ u9 v n hv => ?_)
  obtain ⟨wa, owd, rfl, rfl, hwm, howd⟩ := hv
  refine u9 _ _ ?_; clear u9
  refine ⟨(so, oS2) :: objs, L + 1, ow, none, [(L + 2, on), (L + 3, od), (L + 4, oh), ((964 : Addr), tabObj #[]), (wa, owd)], by simp, dw, by kernel_rfl, fun cw hcw => ?_⟩
  refine Ex.perm (news' := (so, oS2) :: (wa, owd) :: ((L + 1, cw) :: (L + 2, on) :: (L + 3, od) :: (L + 4, oh) :: ((964 : Addr), tabObj #[]) :: objs)) ?_ (by walk_at "perm")
  -- the first loop
  refine law_loop1 (count := count) (rm.le (by decide)) hc (fun g' h => hO g' fun p hp => h p (by first | (walk_at "in"; done) | simp [hp])) (.head _) hcw hS2 (by omega) howd fun oS3 owd' Z rl wkvs place hp3 hS3 howd' hwl hZ => ?_
  conv => { arg 4; whnf }
  -- names
  refine exx_assign_cell (P := fun v n => ∃ na no nl oS', v = .ref na ∧ n = (so, oS') :: (na, no) :: (wa, owd') :: ((L + 1, cw) :: (L + 2, on) :: (L + 3, od) :: (L + 4, oh) :: ((964 : Addr), tabObj #[]) :: (objs ++ Z)) ∧ (na == sysModules) = false ∧ NmO w no nl ∧ NmL count nl ∧ SrcO ca (place + 2) oS') (may := False)
    (names_x (count := count) (rm.le (by decide)) (fun g' h => hO g' fun p hp => h p (by first | (walk_at "in"; done) | simp [hp])) hS3 (by omega) (by omega) (by walk_at "mem") (by walk_at "mem")) (fun h => h.elim) (by kernel_rfl) (hide2 fun _ u9 v n hv => ?_)
  obtain ⟨na, no, nl, oS4, rfl, rfl, hnm, ⟨nkvs, hno, hnk⟩, hnl, hS4⟩ := hv
  refine u9 _ _ ?_; clear u9
  refine ⟨[(so, oS4), (na, no), (wa, owd'), (L + 1, cw)], L + 2, on, none, (L + 3, od) :: (L + 4, oh) :: ((964 : Addr), tabObj #[]) :: (objs ++ Z), rfl, dn, by kernel_rfl, fun cn hcn => ?_⟩
  -- page
  refine exx_assign (P := fun v n => ∃ pg pys ws oS', v = .ref pg ∧ n = (so, oS') :: (pg, lstO pys) :: (na, no) :: (wa, owd') :: (L + 1, cw) :: (L + 2, cn) :: (L + 3, od) :: (L + 4, oh) :: ((964 : Addr), tabObj #[]) :: (objs ++ Z) ∧ AllR (fun y c => IsS c y) pys ws ∧ (∀ c ∈ ws, Letter c) ∧ ws.length ≤ 2) (may := False)
    (evx_ctk (F := F_law_wishes) (k929 _) (ev_glob (g_law_wishes _)) (evsn_cons (evn_of (by walk_at "nm" : Ev _ _ _ _ (· = Value.ref so))) fun _ _ _ => evsn_cons (evn_of (ev_int (x := 2))) fun _ _ _ => evsn_cons (evn_of (ev_int (x := 1))) fun _ _ _ => evsn_nil) (hide2 fun _ u9 vs n hv => ?c6)) (fun h => h.elim) (by kernel_rfl) (by walk_at "sub") (by kernel_rfl) (hide2 fun _ u9 v n hv => ?_)
  case c6 =>
    obtain ⟨_, _, _, _, ⟨rfl, rfl⟩, ⟨_, _, _, _, ⟨⟨t1, rfl⟩, rfl⟩, ⟨_, _, _, _, ⟨⟨t2, rfl⟩, rfl⟩, ⟨rfl, rfl⟩, rfl, rfl⟩, rfl, rfl⟩, rfl, rfl⟩ := hv
    refine u9 _ _ ?_; clear u9
    refine ⟨[(so, oS4)], (na, no) :: (wa, owd') :: (L + 1, cw) :: (L + 2, cn) :: (L + 3, od) :: (L + 4, oh) :: ((964 : Addr), tabObj #[]) :: (objs ++ Z), _, _, 3, .refl _, law_wishes (lim := 2) (few := 1) (by omega) (by decide) (by decide) hS4, rm.le (by decide), fun g' _ h => hO g' fun p hp => h p (by first | (walk_at "in"; done) | simp [hp]), fun v n₁ h => ?_⟩
    walk_at "h"
    obtain ⟨D, ys, ws, oS'', e1, rfl, h3, h4, -, h5, h6⟩ := h
    walk_at "u"
    exact ⟨_, .refl _, D, ys, ws, oS'', e1, rfl, h3, h4, by omega⟩
  obtain ⟨pg, pys, ws, oS5, rfl, rfl, hpys, hlet, hws⟩ := hv
  refine u9 _ _ ?_; clear u9
  -- shelf, held
  refine ex_unpackC (l' := [(Str.ofString "page", .ref pg), (Str.ofString "count", .int ((count : Nat) : Int) tc), (Str.ofString "source", .ref so), (Str.ofString "script", .ref scr)])
    (P := fun a b n => ∃ sa dx tb ot tr otr t1 t2 kq hd ohd tp, a = .ref sa ∧ b = .ref hd ∧ n = (tp, tupO [.ref sa, .ref hd]) :: (hd, ohd) :: (sa, instObj 391 dx) :: (dx, dictOf [E w.params "table" t1 (.ref tb), E w.params "trailer" t2 (.ref tr)] kq) :: (tb, ot) :: (tr, otr) :: (so, oS5) :: (pg, lstO pys) :: (na, no) :: (wa, owd') :: (L + 1, cw) :: (L + 2, cn) :: (L + 3, od) :: (L + 4, oh) :: ((964 : Addr), tabObj #[]) :: (objs ++ Z) ∧
      ot.IsDictOf (PySem.intKind prg w) ([] : List (Int × Value)) ∧ (tb == sysModules) = false ∧ ohd.IsDictOf (PySem.intKind prg w) ([] : List (Int × Value)) ∧ (hd == sysModules) = false) (may := False)
    (EvX.mono (evn_tup (evsn_cons (evn_inst0 (F := F_Lookup_init) (k := 1) (mk_Shelf _) (kp_Shelf _) (ev_glob (g_Shelf _)) (fun x dx => Lookup_init) (rm.le (by decide))) fun _ _ _ => evsn_cons evn_dict0 fun _ _ _ => evsn_nil) ?sz7) ?p7) (fun h => h.elim) (by kernel_rfl) (by kernel_rfl) (by walk_at "sub") (by kernel_rfl) fun a b n hP => ?_
  case sz7 =>
    refine hide2 fun _ u9 => ?_
    rintro _ _ ⟨_, _, _, _, -, ⟨_, _, _, _, -, ⟨rfl, rfl⟩, rfl, rfl⟩, rfl, rfl⟩
    refine u9 _ _ ?_; clear u9
    simp
  case p7 =>
    refine hide2 fun _ u9 => ?_
    rintro v n ⟨n₁, rfl, tp, _, n₂, rfl, ⟨_, _, _, _, ⟨sa, x', rfl, dx, tb, ot, tr, otr, t1, t2, kq, rfl, h1, h2⟩, ⟨_, _, _, _, ⟨hd, ohd, rfl, rfl, h3, -, h4⟩, ⟨rfl, rfl⟩, rfl, rfl⟩, rfl, rfl⟩, rfl⟩
    refine u9 _ _ ?_; clear u9
    exact ⟨tp, _, _, rfl, fun s C => ⟨_, C.obj (.head _), rfl, _, rfl⟩, sa, dx, tb, ot, tr, otr, t1, t2, kq, hd, ohd, tp, rfl, rfl, rfl, h1, h2, h4, h3⟩
  walk_at "h"
  obtain ⟨sa, dx, tb, ot, tr, otr, t1, t2, kq, hd, ohd, tp, rfl, rfl, rfl, hot, htbm, hohd, hhdm⟩ := hP
  walk_at "u"
  refine ⟨[(tp, tupO [.ref sa, .ref hd]), (hd, ohd), (sa, instObj 391 dx), (dx, dictOf [E w.params "table" t1 (.ref tb), E w.params "trailer" t2 (.ref tr)] kq), (tb, ot), (tr, otr), (so, oS5), (pg, lstO pys), (na, no), (wa, owd'), (L + 1, cw), (L + 2, cn), (L + 3, od)], L + 4, oh, none, ((964 : Addr), tabObj #[]) :: (objs ++ Z), rfl, dh, by kernel_rfl, fun ch hch => ?_⟩
  obtain ⟨K2, hK2⟩ : ∃ K2 : List (Addr × Obj), K2 = (sa, instObj 391 dx) :: (dx, dictOf [E w.params "table" t1 (.ref tb), E w.params "trailer" t2 (.ref tr)] kq) :: (tp, tupO [.ref sa, .ref hd]) :: (tr, otr) :: (so, oS5) :: (objs ++ Z) := ⟨_, rfl⟩
  have shelf : ∀ g', Std K2 g' → ShF g' sa tb ∧ NoAt g' sa 391 "put" := fun g' h => by
    rw [hK2] at h
    have h1 := h _ (.head _)
    have h2 := h _ (.tail _ (.head _))
    exact ⟨⟨⟨dx, _, kq, h1, h2, by kernel_rfl, rfl⟩, ⟨dx, _, kq, h1, h2, by kernel_rfl⟩, ⟨dx, _, kq, h1, h2, by kernel_rfl⟩⟩, ⟨dx, _, kq, h1, h2, by kernel_rfl⟩⟩
  have wlF : ∀ g', Std K2 g' → WlF w g' wkvs rl := fun g' h => hZ g' fun p hp => h p (by rw [hK2]; walk_at "in")
  refine Ex.perm (news' := (tb, ot) :: (hd, ohd) :: (((964 : Addr), tabObj #[]) :: (L + 1, cw) :: (L + 2, cn) :: (L + 3, od) :: (L + 4, ch) :: (wa, owd') :: (na, no) :: (pg, lstO pys) :: K2)) ?_ (by subst hK2; walk_at "perm")
  -- the second loop
  refine law_loop2 (count := count) (wkvs := wkvs) (rl := rl) (rm.le (by decide)) hc.2 (wa := wa) (cw := cw) (ch := ch) (owd := owd') (by simp) hcw (by simp) hch (by simp) howd' hwm hwl (fun g' h => wlF g' fun p hp => h p (by first | (walk_at "in"; done) | simp [hp])) (fun g' h => by
      have z := shelf g' fun p hp => h p (by first | (walk_at "in"; done) | simp [hp])
      exact ⟨z.1.table, z.2⟩) hot hohd fun ot' ohd' Z2 tkvs hkvs hot' hohd' hZ2 => ?_
  conv => { arg 4; whnf }
  -- due = []
  refine exx_assign_cell (P := fun v n => ∃ da, v = .ref da ∧ n = (da, listOf #[] 0) :: (tb, ot') :: (hd, ohd') :: ((964 : Addr), tabObj #[]) :: (L + 1, cw) :: (L + 2, cn) :: (L + 3, od) :: (L + 4, ch) :: (wa, owd') :: (na, no) :: (pg, lstO pys) :: (K2 ++ Z2)) (may := False)
    (EvX.mono (evn_list evsn_nil hL0) <| hide2 fun _ u9 v n h => by
      obtain ⟨n₁, rfl, a, _, _, rfl, ⟨rfl, rfl⟩, rfl⟩ := h
      refine u9 _ _ ?_; clear u9
      exact ⟨a, rfl, rfl⟩) (fun h => h.elim) (by kernel_rfl) (hide2 fun _ u9 v n hv => ?_)
  obtain ⟨da, rfl, rfl⟩ := hv
  refine u9 _ _ ?_; clear u9
  refine ⟨[(da, listOf #[] 0), (tb, ot'), (hd, ohd'), ((964 : Addr), tabObj #[]), (L + 1, cw), (L + 2, cn)], L + 3, od, none, (L + 4, ch) :: (wa, owd') :: (na, no) :: (pg, lstO pys) :: (K2 ++ Z2), rfl, dd, by kernel_rfl, fun cd hcd => ?_⟩
  obtain ⟨K3, hK3⟩ : ∃ K3 : List (Addr × Obj), K3 = (L + 1, cw) :: (L + 2, cn) :: (L + 3, cd) :: (L + 4, ch) :: (wa, owd') :: (na, no) :: (pg, lstO pys) :: (tb, ot') :: (hd, ohd') :: (K2 ++ Z2) := ⟨_, rfl⟩
  have hw3 : ∀ g', Std K3 g' → WdF w g' wa count (worldOf rl) ∧ SD w (PySem.strKind prg w) g' na nkvs := fun g' h => by
    rw [hK3] at h
    exact ⟨wdF_of (wlF g' fun p hp => h p (by first | (walk_at "in"; done) | simp [hp])) hwl ⟨Heap.dictOf_iff.mpr ⟨owd', h (wa, owd') (by simp), howd'⟩, hwm⟩, ⟨Heap.dictOf_iff.mpr ⟨no, h (na, no) (by simp), hno⟩, hnm⟩⟩
  refine Ex.perm (news' := (da, listOf #[] 0) :: (((964 : Addr), tabObj #[]) :: K3)) ?_ (by subst hK3; walk_at "perm")
  -- is_right
  refine law_st10 (W := worldOf rl) (count := count) (nkvs := nkvs) (nl := nl) (pys := pys) (ws := ws) (wa := wa) (na := na) (pg := pg) (cw := cw) (cn := cn) (cd := cd) (rm.le (by decide)) (worldOf_wishes hwl) (by rw [hK3]; walk_at "in") hcw (by rw [hK3]; walk_at "in") hcn (by rw [hK3]; walk_at "in") hcd (by rw [hK3]; walk_at "in") (by walk_at "mem") hpys hws
    (fun g' h => hw3 g' fun p hp => h p (.tail _ hp)) hnk (fun x hx => (hnl.2.1 x hx).2) (by kernel_rfl) fun b dvs kk Z3 hdl hres => ?_
  refine Ex.perm (news' := ((964 : Addr), tabObj #[]) :: ((da, listOf dvs.toArray kk) :: (K3 ++ Z3))) ?_ (by walk_at "perm")
  have m3 : ∀ p ∈ K3, p ∈ (da, listOf dvs.toArray kk) :: (K3 ++ Z3) := fun p hp => .tail _ (List.mem_append_left _ hp)
  exact law_s11 (wa := wa) (na := na) (sa := sa) (tb := tb) (hd := hd) (pg := pg) (da := da) (cw := cw) (cn := cn) (cd := cd) (ch := ch) (ot := ot') (ohd := ohd') (count := count) (wkvs := wkvs) (tkvs := tkvs) (hkvs := hkvs) (nkvs := nkvs) (nl := nl) (rl := rl) (pys := pys) (dvs := dvs) (ws := ws) rm h4 h469 hC
    (m3 _ (by rw [hK3]; walk_at "in")) hcw (m3 _ (by rw [hK3]; walk_at "in")) hcn (m3 _ (by rw [hK3]; walk_at "in")) hcd (m3 _ (by rw [hK3]; walk_at "in")) hch hc.2 hwl (fun g' h => hw3 g' fun p hp => h p (m3 p hp)) hnk hnl
    (fun g' h => hZ2 g' fun p hp => h p (m3 p (by rw [hK3]; walk_at "in"))) (m3 _ (by rw [hK3]; walk_at "in")) hot' htbm (m3 _ (by rw [hK3]; walk_at "in")) hohd' hhdm (fun g' h => (shelf g' fun p hp => h p (m3 p (by rw [hK3]; walk_at "in"))).1) hws hlet hpys (m3 _ (by rw [hK3]; walk_at "in")) (.head _) hdl hres
end
theorem law_pre {args : List WData} (h : PySem.Challenge.rw_qd0133_01.row.toRowW.claim.pre args = true) : ∃ xs, args = [.list xs] ∧ WShape.hasItems [] xs .int = true ∧ xs.length ≤ 63 := by
  obtain ⟨h1, h2⟩ := pre_splitW h
  obtain ⟨d, r, rfl, h3, h4⟩ := hasAllW_cons (e := .list .int) (es := []) h1
  obtain rfl := hasAllW_nil h4
  obtain ⟨xs, rfl, h5⟩ := hasW_list h3
  refine ⟨xs, rfl, h5, ?_⟩
  have h6 : WTm.holds [] (.and (.not (.lt (.lit (.int ((63 : Nat) : Int))) (.len (.arg 0)))) (.lit (.bool true))) { args := [.list xs] } = true := h2
  have hv : (WTm.and (.not (.lt (.lit (.int ((63 : Nat) : Int))) (.len (.arg 0)))) (.lit (.bool true))).value [] { args := [WData.list xs] } = some (.bool (!decide (((63 : Nat) : Int) < (xs.length : Int)) && true)) := w_and (w_not (w_lt w_lit (w_len_list (w_arg rfl)))) w_lit
  unfold WTm.holds at h6
  rw [hv] at h6
  by_cases hl : ((63 : Nat) : Int) < (xs.length : Int)
  · rw [decide_eq_true hl] at h6
    exact absurd h6 Bool.false_ne_true
  · omega
theorem ints_of {R : WRecords} {cl : Str → Option Addr} {h : Heap} {cs : List Int} : ∀ {vs : List Value} {as : List Addr}, ReadsAllW R cl h vs (cs.map .int) as → AllR (fun v c => IsI c v) vs cs := by
  induction cs with
  | nil =>
    intro vs as r
    cases r
    exact trivial
  | cons c cs ih =>
    intro vs as r
    cases r with
    | cons h1 h2 =>
      cases h1 with
      | int _ t => exact ⟨⟨t, rfl⟩, ih h2⟩
theorem k967n (P : Params) : nsIn (KL P) mainGlobals "law" = some (some (.ref 967)) := by kernel_rfl
theorem hp4 (P : Params) : (hp P).get? 4 = some J04 := by kernel_rfl
theorem hp469 (P : Params) : (hp P).get? 469 = some J7w := by kernel_rfl
theorem hp964 (P : Params) : (hp P).get? 964 = some (tabObj #[]) := by kernel_rfl
theorem k966 (P : Params) : (KL P).lookup 966 = some JGD := by kernel_rfl
theorem ka964 (P : Params) : ((KL P).all fun p => !(p.1 == 964)) = true := by kernel_rfl
theorem kl_ne {P : Params} {b : Addr} {o : Obj} (h : (KL P).lookup b = some o) : b ≠ 964 := fun e => by
  subst e
  have := ka964 P
  revert h this
  generalize KL P = l
  intro h hl
  induction l with
  | nil => cases h
  | cons p l ih =>
    obtain ⟨a, q⟩ := p
    rw [List.all_cons, Bool.and_eq_true] at hl
    rw [List.lookup_cons] at h
    by_cases e : (964 == a) = true
    · have : a = 964 := (beq_iff_eq.mp e).symm
      subst this
      simp at hl
    · have e' : (964 == a) = false := by simpa using e
      rw [e'] at h
      exact ih h hl.2
theorem codeHd966 {P : Params} {h : Heap} (k : h.get? 966 = some JGD) : CodeHd h 966 964 :=
  ⟨_, _, _, _, _, _, _, _, _, k, rfl, rfl, rfl, rfl, rfl, rfl, rfl, rfl, by decide⟩
theorem walk_law : WalkO vw loose (fun _ _ => True) Stands PySem.Challenge.rw_qd0133_01.row.toRowW lawRec [] fun f vs => PySem.call f vs := by
  intro w s₀ s₁ mg mb G Y a o pm cd doc dV kV ha ho hcd hdf hmg hgens args vals as hpre hlay hrd hwell hlow
  walk_at "h"
  obtain ⟨xs, rfl, hxs, hlen⟩ := law_pre hpre
  walk_at "u"
  have hSB : SB w s₁.heap := sb_of Y
  have hmain : mg (Str.ofString "law") = some (.ref 967) := mg_of (kl_in hSB) G.T.g (k967n _)
  have ea : a = 967 := by
    have z : mg (Str.ofString "law") = some (.ref a) := hmg
    rw [hmain] at z
    cases z; rfl
  subst ea
  obtain ⟨scr, os, vs, n, bs, rfl, e1, e2, e3, hra⟩ : ∃ scr os vs n bs, vals = [Value.ref scr] ∧ s₁.heap.get? scr = some os ∧ os.cls = .type "list" ∧ os.data = .seq vs n ∧ ReadsAllW PySem.Challenge.rw_qd0133_01.row.toRowW.records (classAt s₀.heap) s₁.heap vs.toList xs bs := by
    cases hrd with
    | cons h1 h2 =>
      cases h2
      cases h1 with
      | list a1 a2 a3 a4 => exact ⟨_, _, _, _, _, rfl, a1, a2, a3, a4⟩
  obtain ⟨cs, rfl⟩ := items_int hxs
  have hcs := ints_of hra
  have hcl : cs.length ≤ 63 := by rw [List.length_map] at hlen; exact hlen
  have h964 : s₁.heap.get? 964 = some (tabObj #[]) := Y _ _ (hp964 _)
  have hneS : scr ≠ 964 := fun e => by
    rw [e, h964] at e1
    cases e1
    cases e2
  have hide : ∀ b o, b ≠ 964 → s₁.heap.get? b = some o → (hideAll s₁.heap [964]).get? b = some o := fun b o hb e => hideAll_get _ e (by simpa using hb)
  have hSBg : SB w (hideAll s₁.heap [964]) := fun b o e => hide b o (kl_ne e) (hSB b o e)
  have Pr : Pre w callerA [] (hideAll s₁.heap [964]) (hideAll s₁.heap [964]) [((964 : Addr), tabObj #[])] s₁ := by
    refine ⟨rfl, rfl, fun b o e => e, trivial, hSBg, fun b o e => of_hideAll _ e, Nat.le_of_eq (hideAll_size _ _), fun p hp => ?_, by simp⟩
    rw [List.mem_singleton.mp hp]
    exact ⟨h964, hideAll_none _ (.head _)⟩
  have hrm : ∀ L, Room (callerA.deeper (lawEnv L)) 60 := fun L => by
    refine ⟨?_, ?_⟩
    · show (1 + claimMargin) + 1 + 2 * 60 < 590; unfold claimMargin; decide
    · show 4 + 3 + 20 * 60 < 8990; decide
  refine wpAny_call (law_enter Pr (by show 1 + claimMargin < 590; unfold claimMargin; decide) (by show 4 < 8990; decide) fun L ow on od oh s₂ dw dn dd dh C => ?_)
  refine wpAny_mono (law_body (w := w) (A := callerA) (s₀ := s₁) (g := hideAll s₁.heap [964]) (base := hideAll s₁.heap [964]) (L := L) (vs := vs.toList) (cs := cs) (hrm L) (hide _ _ (by decide) (Y _ _ (hp4 _))) (hide _ _ (by decide) (Y _ _ (hp469 _))) (codeHd966 (P := w.params) (hSBg _ _ (k966 _))) ⟨os, hide _ _ hneS e1, e2, n, by simpa using e3⟩ hcs hcl dw dn dd dh s₂ C) (fun fl s' hq => ?_) (fun e s' h => h.1.elim)
  walk_at "h"
  obtain ⟨l, m, ps, rfl, C', hps⟩ := hq
  walk_at "u"
  obtain ⟨mm, F, -⟩ := C'.fr
  refine ⟨.inl ⟨.bool true, .bool true, [], rfl, fun cls => rfl, .bool true, ?_, fun _ => ⟨List.nodup_nil, fun a ha => nomatch ha⟩⟩, ⟨fun b o e => ?_, fun b o e => ?_⟩, C'.os, .of_eq (C'.gens.trans hgens)⟩
  · show (WShape.has [] (.bool true) .bool && WTm.holds [] (.eq .res (.lit (.bool true))) { args := [WData.list (cs.map .int)], res := some (.bool true), after := [WData.list (cs.map .int)] }) = true
    have e : (WTm.eq .res (.lit (.bool true))).value [] { args := [WData.list (cs.map .int)], res := some (.bool true), after := [WData.list (cs.map .int)] } = some (.bool (true == true)) := w_eq_bool (w_res rfl) w_lit
    unfold WTm.holds
    rw [e]
    rfl
  · by_cases hb : b = 964
    · subst hb
      rw [h964] at e
      cases e
      exact .inr (.inl ⟨((codeHd966 (P := w.params) (hSB _ _ (k966 _))).tab h964).isCodeTable, rfl, #[], ps, rfl, by rw [Array.empty_append]; exact C'.obj hps⟩)
    · exact .inl (C'.keep (hide b o hb e))
  · by_cases hb : b = 964
    · subst hb
      exact ⟨_, C'.obj hps⟩
    · exact ⟨o, C'.keep (hide b o hb e)⟩
theorem law_holds : PySem.Challenge.rw_qd0133_01.Holds := head walk_law
end Mine
theorem PySem.Challenge.cw_qd0133_01_holds : PySem.Challenge.rw_qd0133_01.Holds :=
  Mine.law_holds
