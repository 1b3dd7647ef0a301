import PyProof.Rows.All
import Wide.All
import OpenK.AllK
import Wide.FinOn
import KE.KStateDown
import HandS.Base
import HandS.Call
import HandS.Ends
import HandS.EndBits
import HandS.Head0
import HandS.Head1
import HandS.Head2
import HandS.HeadEnd
import HandS.Words
import HandS.HeadHook1
import HandS.HeadHook2
import PySem.Challenge.RW_bitsback_k05_whole_products_told_back
import HandS.ForMost
import HandS.Exc
import HandS.TryOnly
import HandS.ExcOwn
import HandS.WordsExc
import HandS.Walk
import HandS.Property
import HandS.WideBits
import HandS.Wide
import HandS.WideMore
import HandS.Conv
import HandS.TupAny
import HandS.TupMul
import HandS.TupLe
import HandS.Records
import HandS.Zip
import HandS.IsInst
import HandS.Flow
import HandS.ExcInit
import HandS.TryMany
import HandS.Text
import HandS.OwnEq
import OpenK.KMeth
import OpenK.KOps
import HandS.Style
import HandS.Deep
import HandS.ClsMeth
import HandS.Defaults
import HandS.ExcIs
import HandS.ExcField
import HandS.List
import HandS.Zip0
import HandS.More
import KE.GoesEnum
import KE.GoesMore
import HandS.SortInts
import HandS.SetFor
import HandS.Strs
set_option Elab.async false
set_option linter.all false
section
set_option maxRecDepth 100000
set_option maxHeartbeats 0
noncomputable section
namespace HDC
open PySem PySem.W PySem.Calls PyProof.Rows L2 HandSHeadRun
def de (P : Params) (s : Str) (t : Nat) (v : Value) : DictEntry := ⟨reduceHash (P.strHash s.cps), .str s t, v⟩
def fu (s : Stmt) (nm qn : Str) (gl : Addr) (cl : List (Str × Addr)) (df kw dc pm : Value) (an : Option Addr) (cd ct : Value) (bt : Addr) : Data := .func ⟨nm, qn, defArgs s, .stmts (defBody s), defScope s, gl, cl, df, kw, dc, pm, an, cd, ct, bt⟩
def goK (st : SharedT → Thread → Option (SharedT × Thread)) (b0 : Nat) (an : Option Value) : Nat → SharedT → Thread → Option (SharedT × Thread)
  | 0, s, t => some (s, t)
  | m + 1, s, t => match through t with
    | true => none
    | false => match stepOk b0 an t with
      | false => none
      | true => match st s t with
        | some (s2, t2) => frS s2 fun s2 => goK st b0 an m s2 t2
        | none => none
theorem goK_goF {st : SharedT → Thread → Option (SharedT × Thread)} {b0 : Nat} {an : Option Value} (k : Nat) : ∀ {m : Nat} {s s2 : SharedT} {t t2 : Thread}, goK st b0 an m s t = some (s2, t2) → goF st b0 an (m + k) s t = goF st b0 an k s2 t2
  | 0, s, s2, t, t2, h => by
    cases h
    rw [Nat.zero_add]
  | m + 1, s, s2, t, t2, h => by
    rw [Nat.add_right_comm]
    unfold goK at h
    have e : goF st b0 an (m + k + 1) s t = (match through t with
      | true => some s
      | false => match stepOk b0 an t with
        | false => none
        | true => match st s t with
          | some (s', t') => frS s' fun s' => goF st b0 an (m + k) s' t'
          | none => none) := rfl
    rw [e]
    cases a : through t with
    | true => rw [a] at h; cases h
    | false =>
      rw [a] at h
      cases b : stepOk b0 an t with
      | false => rw [b] at h; cases h
      | true =>
        rw [b] at h
        cases c : st s t with
        | none => rw [c] at h; cases h
        | some r =>
          obtain ⟨x, y⟩ := r
          rw [c] at h
          dsimp only at h ⊢
          rw [frS_eq] at h ⊢
          exact goK_goF k h
def bootK (st : SharedT → Thread → Option (SharedT × Thread)) (M : Nat) (p : Program) (w : World) (os : OsState) : Option (SharedT × Thread) := match putAll (boot_heap w.params).objs.toList .nil 0 with
  | some (t, n) => frNat n fun n0 => goK st n0 (bootAnn w) M (bootT w os (t, n0)) (topStub p)
  | none => none
def thr (e : Option (SharedT × Thread)) (i : Nat) (pos : Pos) : Thread := match e with
  | some (_, ⟨_, code, _, stack⟩) => (match code with
    | .body ss env => ⟨denQ tabQ (.body (ss.drop i) env), code, pos, stack⟩
    | _ => ⟨.pure (.done .next), code, pos, stack⟩)
  | none => ⟨.pure (.done .next), .builtin "" {}, pos, []⟩
def bootN : Nat := 11
abbrev R : OpenRow := OpenLaw.row PySem.Challenge.rw_bitsback_k05_whole_products_told_back
def top (i : Nat) : Stmt := PySem.Challenge.pw_bitsback_k05_whole_products_told_back.main.body.getD i (.Pass ⟨0, 0, 0, 0⟩)
def o0 (P : Params) : Obj := ⟨(.type "dict"), none, (.dict ⟨[de P "__name__" 1 (.str "builtins" 160), de P "__doc__" 2 (.builtin "builtins.__doc__:str#opaque"), de P "__package__" 3 (.builtin "builtins.__package__:str#opaque"), de P "__loader__" 4 (.builtin "builtins.__loader__:shared#opaque"), de P "__spec__" 5 (.builtin "builtins.__spec__#opaque"), de P "__build_class__" 6 (.builtin "__build_class__"), de P "__import__" 7 (.builtin "__import__"), de P "abs" 8 (.builtin "abs"), de P "all" 9 (.builtin "all"), de P "any" 10 (.builtin "any"), de P "ascii" 11 (.builtin "ascii"), de P "bin" 12 (.builtin "bin"), de P "breakpoint" 13 (.builtin "breakpoint"), de P "callable" 14 (.builtin "callable"), de P "chr" 15 (.builtin "chr"), de P "compile" 16 (.builtin "compile"), de P "delattr" 17 (.builtin "delattr"), de P "dir" 18 (.builtin "dir"), de P "divmod" 19 (.builtin "divmod"), de P "eval" 20 (.builtin "eval"), de P "exec" 21 (.builtin "exec"), de P "format" 22 (.builtin "format"), de P "getattr" 23 (.builtin "getattr"), de P "globals" 24 (.builtin "globals"), de P "hasattr" 25 (.builtin "hasattr"), de P "hash" 26 (.builtin "hash"), de P "hex" 27 (.builtin "hex"), de P "id" 28 (.builtin "id"), de P "input" 29 (.builtin "input"), de P "isinstance" 30 (.builtin "isinstance"), de P "issubclass" 31 (.builtin "issubclass"), de P "iter" 32 (.builtin "iter"), de P "aiter" 33 (.builtin "aiter"), de P "len" 34 (.builtin "len"), de P "locals" 35 (.builtin "locals"), de P "max" 36 (.builtin "max"), de P "min" 37 (.builtin "min"), de P "next" 38 (.builtin "next"), de P "anext" 39 (.builtin "anext"), de P "oct" 40 (.builtin "oct"), de P "ord" 41 (.builtin "ord"), de P "pow" 42 (.builtin "pow"), de P "print" 43 (.builtin "print"), de P "repr" 44 (.builtin "repr"), de P "round" 45 (.builtin "round"), de P "setattr" 46 (.builtin "setattr"), de P "sorted" 47 (.builtin "sorted"), de P "sum" 48 (.builtin "sum"), de P "vars" 49 (.builtin "vars"), de P "None" 50 .none, de P "Ellipsis" 51 .ellipsis, de P "NotImplemented" 52 .notImplemented, de P "False" 53 (.bool false), de P "True" 54 (.bool true), de P "bool" 55 (.type "bool"), de P "memoryview" 56 (.type "memoryview"), de P "bytearray" 57 (.type "bytearray"), de P "bytes" 58 (.type "bytes"), de P "classmethod" 59 (.type "classmethod"), de P "complex" 60 (.type "complex"), de P "dict" 61 (.type "dict"), de P "enumerate" 62 (.type "enumerate"), de P "filter" 63 (.type "filter"), de P "float" 64 (.type "float"), de P "frozenset" 65 (.type "frozenset"), de P "property" 66 (.type "property"), de P "int" 67 (.type "int"), de P "list" 68 (.type "list"), de P "map" 69 (.type "map"), de P "object" 70 (.type "object"), de P "range" 71 (.type "range"), de P "reversed" 72 (.type "reversed"), de P "set" 73 (.type "set"), de P "slice" 74 (.type "slice"), de P "staticmethod" 75 (.type "staticmethod"), de P "str" 76 (.type "str"), de P "super" 77 (.type "super"), de P "tuple" 78 (.type "tuple"), de P "type" 79 (.type "type"), de P "zip" 80 (.type "zip"), de P "__debug__" 81 (.bool true), de P "BaseException" 82 (.type "BaseException"), de P "BaseExceptionGroup" 83 (.type "BaseExceptionGroup"), de P "Exception" 84 (.type "Exception"), de P "GeneratorExit" 85 (.type "GeneratorExit"), de P "KeyboardInterrupt" 86 (.type "KeyboardInterrupt"), de P "SystemExit" 87 (.type "SystemExit"), de P "ArithmeticError" 88 (.type "ArithmeticError"), de P "AssertionError" 89 (.type "AssertionError"), de P "AttributeError" 90 (.type "AttributeError"), de P "BufferError" 91 (.type "BufferError"), de P "EOFError" 92 (.type "EOFError"), de P "ImportError" 93 (.type "ImportError"), de P "LookupError" 94 (.type "LookupError"), de P "MemoryError" 95 (.type "MemoryError"), de P "NameError" 96 (.type "NameError"), de P "OSError" 97 (.type "OSError"), de P "ReferenceError" 98 (.type "ReferenceError"), de P "RuntimeError" 99 (.type "RuntimeError"), de P "StopAsyncIteration" 100 (.type "StopAsyncIteration"), de P "StopIteration" 101 (.type "StopIteration"), de P "SyntaxError" 102 (.type "SyntaxError"), de P "SystemError" 103 (.type "SystemError"), de P "TypeError" 104 (.type "TypeError"), de P "ValueError" 105 (.type "ValueError"), de P "Warning" 106 (.type "Warning"), de P "FloatingPointError" 107 (.type "FloatingPointError"), de P "OverflowError" 108 (.type "OverflowError"), de P "ZeroDivisionError" 109 (.type "ZeroDivisionError"), de P "BytesWarning" 110 (.type "BytesWarning"), de P "DeprecationWarning" 111 (.type "DeprecationWarning"), de P "EncodingWarning" 112 (.type "EncodingWarning"), de P "FutureWarning" 113 (.type "FutureWarning"), de P "ImportWarning" 114 (.type "ImportWarning"), de P "PendingDeprecationWarning" 115 (.type "PendingDeprecationWarning"), de P "ResourceWarning" 116 (.type "ResourceWarning"), de P "RuntimeWarning" 117 (.type "RuntimeWarning"), de P "SyntaxWarning" 118 (.type "SyntaxWarning"), de P "UnicodeWarning" 119 (.type "UnicodeWarning"), de P "UserWarning" 120 (.type "UserWarning"), de P "BlockingIOError" 121 (.type "BlockingIOError"), de P "ChildProcessError" 122 (.type "ChildProcessError"), de P "ConnectionError" 123 (.type "ConnectionError"), de P "FileExistsError" 124 (.type "FileExistsError"), de P "FileNotFoundError" 125 (.type "FileNotFoundError"), de P "InterruptedError" 126 (.type "InterruptedError"), de P "IsADirectoryError" 127 (.type "IsADirectoryError"), de P "NotADirectoryError" 128 (.type "NotADirectoryError"), de P "PermissionError" 129 (.type "PermissionError"), de P "ProcessLookupError" 130 (.type "ProcessLookupError"), de P "TimeoutError" 131 (.type "TimeoutError"), de P "IndentationError" 132 (.type "IndentationError"), de P "_IncompleteInputError" 133 (.type "_IncompleteInputError"), de P "IndexError" 134 (.type "IndexError"), de P "KeyError" 135 (.type "KeyError"), de P "ModuleNotFoundError" 136 (.type "ModuleNotFoundError"), de P "NotImplementedError" 137 (.type "NotImplementedError"), de P "PythonFinalizationError" 138 (.type "PythonFinalizationError"), de P "RecursionError" 139 (.type "RecursionError"), de P "UnboundLocalError" 140 (.type "UnboundLocalError"), de P "UnicodeError" 141 (.type "UnicodeError"), de P "BrokenPipeError" 142 (.type "BrokenPipeError"), de P "ConnectionAbortedError" 143 (.type "ConnectionAbortedError"), de P "ConnectionRefusedError" 144 (.type "ConnectionRefusedError"), de P "ConnectionResetError" 145 (.type "ConnectionResetError"), de P "TabError" 146 (.type "TabError"), de P "UnicodeDecodeError" 147 (.type "UnicodeDecodeError"), de P "UnicodeEncodeError" 148 (.type "UnicodeEncodeError"), de P "UnicodeTranslateError" 149 (.type "UnicodeTranslateError"), de P "ExceptionGroup" 150 (.type "ExceptionGroup"), de P "EnvironmentError" 151 (.type "OSError"), de P "IOError" 152 (.type "OSError"), de P "open" 153 (.builtin "open"), de P "quit" 154 (.builtin "builtins.quit#opaque"), de P "exit" 155 (.builtin "builtins.exit#opaque"), de P "copyright" 156 (.builtin "builtins.copyright#opaque"), de P "credits" 157 (.builtin "builtins.credits#opaque"), de P "license" 158 (.builtin "builtins.license#opaque"), de P "help" 159 (.builtin "builtins.help#opaque")]⟩ 159), ⟨[]⟩⟩
def o1 (P : Params) : Obj := ⟨(.type "dict"), none, (.dict ⟨[de P "builtins" 162 (.ref 4), de P "__main__" 163 (.ref 5)]⟩ 2), ⟨[]⟩⟩
def o2 : Obj := ⟨.none, none, (.dict ⟨[]⟩ 0), ⟨[]⟩⟩
def o3 (P : Params) : Obj := ⟨(.type "dict"), none, (.dict ⟨[de P "__name__" 165 (.str "bitsback.errors" 194), de P "__doc__" 166 .none, de P "__package__" 167 .none, de P "__loader__" 168 (.builtin "__main__.__loader__#opaque"), de P "__spec__" 169 .none, de P "__annotations__" 170 (.ref 6), de P "__builtins__" 171 (.ref 4), de P "__file__" 173 (.str "/claim/cut.py" 172), de P "__cached__" 174 .none, de P "_wall" 193 (.ref 21), de P "BitsError" 213 (.ref 31), de P "BadNumber" 238 (.ref 51), de P "BadBeat" 263 (.ref 70), de P "NoDivision" 286 (.ref 89)]⟩ 14), ⟨[]⟩⟩
def o4 : Obj := ⟨(.type "module"), (some 0), .plain, ⟨[]⟩⟩
def o5 : Obj := ⟨(.type "module"), (some 3), .plain, ⟨[]⟩⟩
def o6 : Obj := ⟨(.type "dict"), none, (.dict ⟨[]⟩ 0), ⟨[]⟩⟩
def o7 : Obj := ⟨(.type "tuple"), none, (.seq ⟨[]⟩ 0), ⟨[]⟩⟩
def o8 : Obj := ⟨.none, none, (.fields ⟨[]⟩), ⟨[]⟩⟩
def o9 : Obj := ⟨(.type "code"), none, (.fields ⟨[(.str "<module>" 176), (.str "<module>" 177), (.str "/claim/cut.py" 178), (.int (1) 0), (.int (0) 0), (.int (0) 0), (.int (0) 0), (.int (0) 0), (.ref 7), (.bool false), (.int (175) 0), (.ref 8), .none, .none, .none, .none, (.int (179) 0), (.int (1) 0), (.str "/claim/cut.py" 180)]⟩), ⟨[]⟩⟩
def o10 : Obj := ⟨(.type "frame"), none, .plain, ⟨[(some (.ref 9)), (some (.ref 3)), (some (.ref 3)), none, (some (.str "__main__" 164)), none, (some (.ref 0))]⟩⟩
def o11 : Obj := ⟨.none, none, (.fields ⟨[(.int (1) 0), (.int (0) 0), (.ref 20), (.int (5) 0), (.int (0) 0), (.ref 27), (.int (7) 0), (.int (0) 0), (.ref 40), (.int (12) 0), (.int (0) 0), (.ref 59), (.int (17) 0), (.int (0) 0), (.ref 78)]⟩), ⟨[]⟩⟩
def o12 : Obj := ⟨(.type "code"), none, (.fields ⟨[(.str "<module>" 182), (.str "<module>" 183), (.str "/claim/cut.py" 184), (.int (1) 0), (.int (0) 0), (.int (0) 0), (.int (0) 0), (.int (0) 0), (.ref 11), (.bool false), (.int (181) 0), (.ref 12), .none, .none, .none, .none, (.int (185) 0), (.int (1) 0), (.str "/claim/cut.py" 186)]⟩), ⟨[]⟩⟩
def o13 : Obj := ⟨(.type "frame"), none, .plain, ⟨[(some (.ref 13)), (some (.ref 3)), (some (.ref 3)), none, (some (.str "__main__" 164)), none, (some (.ref 0))]⟩⟩
def o14 : Obj := ⟨(.type "tuple"), none, (.seq ⟨[(.str "k" 190)]⟩ 0), ⟨[]⟩⟩
def o15 : Obj := ⟨.none, none, (fu (top 0) "_wall" "_wall" 0 [] .none .none .none .none none .none .none 0), ⟨[]⟩⟩
def o16 : Obj := ⟨(.type "code"), none, (.fields ⟨[(.str "_wall" 187), (.str "_wall" 188), (.str "/claim/cut.py" 189), (.int (1) 0), (.int (1) 0), (.int (0) 0), (.int (0) 0), (.int (3) 0), (.ref 15), (.bool true), (.int (181) 0), (.ref 16), .none, (.ref 17), (.ref 18), (.ref 19), (.int (191) 0), (.int (1) 0), (.str "/claim/cut.py" 192)]⟩), ⟨[]⟩⟩
def o17 : Obj := ⟨(.type "function"), none, (fu (top 0) "_wall" "_wall" 3 [] .none .none .none (.str "__main__" 164) none (.ref 20) .none 0), ⟨[]⟩⟩
def o18 : Obj := ⟨(.type "tuple"), none, (.seq ⟨[(.type "ValueError")]⟩ 0), ⟨[]⟩⟩
def o19 : Obj := ⟨(.type "builtin_function_or_method"), none, (.fields ⟨[(.builtin "type.__prepare__"), (.type "type")]⟩), ⟨[]⟩⟩
def o20 (P : Params) : Obj := ⟨(.type "dict"), none, (.dict ⟨[de P "__module__" 203 (.str "bitsback.errors" 194), de P "__qualname__" 205 (.str "BitsError" 204), de P "__firstlineno__" 207 (.int (5) 206), de P "__static_attributes__" 208 (.ref 29)]⟩ 4), ⟨[]⟩⟩
def o21 : Obj := ⟨(.type "code"), none, (.fields ⟨[(.str "BitsError" 198), (.str "BitsError" 199), (.str "/claim/cut.py" 200), (.int (5) 0), (.int (0) 0), (.int (0) 0), (.int (0) 0), (.int (0) 0), (.ref 25), (.bool false), (.int (181) 0), (.ref 26), .none, .none, .none, .none, (.int (201) 0), (.int (5) 0), (.str "/claim/cut.py" 202)]⟩), ⟨[]⟩⟩
def o22 : Obj := ⟨(.type "frame"), none, .plain, ⟨[(some (.ref 27)), (some (.ref 3)), (some (.ref 24)), none, (some (.str "bitsback.errors" 194)), none, (some (.ref 0))]⟩⟩
def o23 (P : Params) : Obj := ⟨(.type "dict"), none, (.dict ⟨[de P "__module__" 203 (.str "bitsback.errors" 194), de P "__firstlineno__" 207 (.int (5) 206), de P "__static_attributes__" 208 (.ref 29), de P "__weakref__" 210 (.ref 32), de P "__doc__" 211 .none]⟩ 3), ⟨[]⟩⟩
def o24 : Obj := ⟨(.type "type"), none, (.cls ⟨"BitsError", [(.type "ValueError")], [(.ref 31), (.type "ValueError"), (.type "Exception"), (.type "BaseException"), (.type "object")], 30, "BitsError", true, [], [(.ref 51), (.ref 70), (.ref 89)], false, none, false⟩), ⟨[(some (.ref 22)), none, (some (.str "BitsError" 196)), (some (.str "BitsError" 204)), (some (.builtin "ValueError.__new__")), (some (.bool true))]⟩⟩
def o25 : Obj := ⟨(.type "getset_descriptor"), none, (.fields ⟨[(.str "__weakref__" 209), (.ref 31), (.builtin "ExceptionGroup.__weakref__"), .none]⟩), ⟨[]⟩⟩
def o26 : Obj := ⟨(.type "super"), none, (.fields ⟨[(.ref 31), (.ref 31), (.ref 31)]⟩), ⟨[]⟩⟩
def o27 : Obj := ⟨(.type "builtin_function_or_method"), none, (.fields ⟨[(.builtin "object.__init_subclass__"), (.ref 31)]⟩), ⟨[]⟩⟩
def o28 : Obj := ⟨(.type "tuple"), none, (.seq ⟨[(.ref 31)]⟩ 0), ⟨[]⟩⟩
def o29 (P : Params) : Obj := ⟨(.type "dict"), none, (.dict ⟨[de P "__module__" 221 (.str "bitsback.errors" 194), de P "__qualname__" 223 (.str "BadNumber" 222), de P "__firstlineno__" 225 (.int (7) 224), de P "__init__" 233 (.ref 48), de P "__static_attributes__" 235 (.ref 49)]⟩ 5), ⟨[]⟩⟩
def o30 : Obj := ⟨.none, none, (.fields ⟨[(.int (9) 0), (.int (4) 0), (.ref 47)]⟩), ⟨[]⟩⟩
def o31 : Obj := ⟨(.type "code"), none, (.fields ⟨[(.str "BadNumber" 216), (.str "BadNumber" 217), (.str "/claim/cut.py" 218), (.int (7) 0), (.int (0) 0), (.int (0) 0), (.int (0) 0), (.int (0) 0), (.ref 38), (.bool false), (.int (181) 0), (.ref 39), .none, .none, .none, .none, (.int (219) 0), (.int (7) 0), (.str "/claim/cut.py" 220)]⟩), ⟨[]⟩⟩
def o32 : Obj := ⟨(.type "frame"), none, .plain, ⟨[(some (.ref 40)), (some (.ref 3)), (some (.ref 37)), none, (some (.str "bitsback.errors" 194)), none, (some (.ref 0))]⟩⟩
def o33 : Obj := ⟨(.type "tuple"), none, (.seq ⟨[(.str "self" 229), (.str "number" 230)]⟩ 0), ⟨[]⟩⟩
def o34 : Obj := ⟨.none, none, (fu (inClass (top 3) 0) "__init__" "BadNumber.__init__" 0 [] .none .none .none .none none .none .none 0), ⟨[]⟩⟩
def o35 : Obj := ⟨(.type "code"), none, (.fields ⟨[(.str "__init__" 226), (.str "BadNumber.__init__" 227), (.str "/claim/cut.py" 228), (.int (9) 0), (.int (2) 0), (.int (0) 0), (.int (0) 0), (.int (3) 0), (.ref 42), (.bool true), (.int (181) 0), (.ref 43), .none, (.ref 44), (.ref 45), (.ref 46), (.int (231) 0), (.int (9) 0), (.str "/claim/cut.py" 232)]⟩), ⟨[]⟩⟩
def o36 : Obj := ⟨(.type "function"), none, (fu (inClass (top 3) 0) "__init__" "BadNumber.__init__" 3 [] .none .none .none (.str "bitsback.errors" 194) none (.ref 47) .none 0), ⟨[]⟩⟩
def o37 : Obj := ⟨(.type "tuple"), none, (.seq ⟨[(.str "number" 234)]⟩ 0), ⟨[]⟩⟩
def o38 (P : Params) : Obj := ⟨(.type "dict"), none, (.dict ⟨[de P "__module__" 221 (.str "bitsback.errors" 194), de P "__firstlineno__" 225 (.int (7) 224), de P "__init__" 233 (.ref 48), de P "__static_attributes__" 235 (.ref 49), de P "__doc__" 236 .none]⟩ 2), ⟨[]⟩⟩
def o39 : Obj := ⟨(.type "type"), none, (.cls ⟨"BadNumber", [(.ref 31)], [(.ref 51), (.ref 31), (.type "ValueError"), (.type "Exception"), (.type "BaseException"), (.type "object")], 50, "BadNumber", true, [], [], false, none, false⟩), ⟨[(some (.ref 35)), none, (some (.str "BadNumber" 214)), (some (.str "BadNumber" 222)), (some (.builtin "ValueError.__new__")), (some (.bool true))]⟩⟩
def o40 : Obj := ⟨(.type "super"), none, (.fields ⟨[(.ref 51), (.ref 51), (.ref 51)]⟩), ⟨[]⟩⟩
def o41 : Obj := ⟨(.type "builtin_function_or_method"), none, (.fields ⟨[(.builtin "object.__init_subclass__"), (.ref 51)]⟩), ⟨[]⟩⟩
def o42 (P : Params) : Obj := ⟨(.type "dict"), none, (.dict ⟨[de P "__module__" 246 (.str "bitsback.errors" 194), de P "__qualname__" 248 (.str "BadBeat" 247), de P "__firstlineno__" 250 (.int (12) 249), de P "__init__" 258 (.ref 67), de P "__static_attributes__" 260 (.ref 68)]⟩ 5), ⟨[]⟩⟩
def o43 : Obj := ⟨.none, none, (.fields ⟨[(.int (14) 0), (.int (4) 0), (.ref 66)]⟩), ⟨[]⟩⟩
def o44 : Obj := ⟨(.type "code"), none, (.fields ⟨[(.str "BadBeat" 241), (.str "BadBeat" 242), (.str "/claim/cut.py" 243), (.int (12) 0), (.int (0) 0), (.int (0) 0), (.int (0) 0), (.int (0) 0), (.ref 57), (.bool false), (.int (181) 0), (.ref 58), .none, .none, .none, .none, (.int (244) 0), (.int (12) 0), (.str "/claim/cut.py" 245)]⟩), ⟨[]⟩⟩
def o45 : Obj := ⟨(.type "frame"), none, .plain, ⟨[(some (.ref 59)), (some (.ref 3)), (some (.ref 56)), none, (some (.str "bitsback.errors" 194)), none, (some (.ref 0))]⟩⟩
def o46 : Obj := ⟨(.type "tuple"), none, (.seq ⟨[(.str "self" 254), (.str "beat" 255)]⟩ 0), ⟨[]⟩⟩
def o47 : Obj := ⟨.none, none, (fu (inClass (top 4) 0) "__init__" "BadBeat.__init__" 0 [] .none .none .none .none none .none .none 0), ⟨[]⟩⟩
def o48 : Obj := ⟨(.type "code"), none, (.fields ⟨[(.str "__init__" 251), (.str "BadBeat.__init__" 252), (.str "/claim/cut.py" 253), (.int (14) 0), (.int (2) 0), (.int (0) 0), (.int (0) 0), (.int (3) 0), (.ref 61), (.bool true), (.int (181) 0), (.ref 62), .none, (.ref 63), (.ref 64), (.ref 65), (.int (256) 0), (.int (14) 0), (.str "/claim/cut.py" 257)]⟩), ⟨[]⟩⟩
def o49 : Obj := ⟨(.type "function"), none, (fu (inClass (top 4) 0) "__init__" "BadBeat.__init__" 3 [] .none .none .none (.str "bitsback.errors" 194) none (.ref 66) .none 0), ⟨[]⟩⟩
def o50 : Obj := ⟨(.type "tuple"), none, (.seq ⟨[(.str "beat" 259)]⟩ 0), ⟨[]⟩⟩
def o51 (P : Params) : Obj := ⟨(.type "dict"), none, (.dict ⟨[de P "__module__" 246 (.str "bitsback.errors" 194), de P "__firstlineno__" 250 (.int (12) 249), de P "__init__" 258 (.ref 67), de P "__static_attributes__" 260 (.ref 68), de P "__doc__" 261 .none]⟩ 2), ⟨[]⟩⟩
def o52 : Obj := ⟨(.type "type"), none, (.cls ⟨"BadBeat", [(.ref 31)], [(.ref 70), (.ref 31), (.type "ValueError"), (.type "Exception"), (.type "BaseException"), (.type "object")], 69, "BadBeat", true, [], [], false, none, false⟩), ⟨[(some (.ref 54)), none, (some (.str "BadBeat" 239)), (some (.str "BadBeat" 247)), (some (.builtin "ValueError.__new__")), (some (.bool true))]⟩⟩
def o53 : Obj := ⟨(.type "super"), none, (.fields ⟨[(.ref 70), (.ref 70), (.ref 70)]⟩), ⟨[]⟩⟩
def o54 : Obj := ⟨(.type "builtin_function_or_method"), none, (.fields ⟨[(.builtin "object.__init_subclass__"), (.ref 70)]⟩), ⟨[]⟩⟩
def o55 (P : Params) : Obj := ⟨(.type "dict"), none, (.dict ⟨[de P "__module__" 271 (.str "bitsback.errors" 194), de P "__qualname__" 273 (.str "NoDivision" 272), de P "__firstlineno__" 275 (.int (17) 274), de P "__init__" 282 (.ref 86), de P "__static_attributes__" 283 (.ref 87)]⟩ 5), ⟨[]⟩⟩
def o56 : Obj := ⟨.none, none, (.fields ⟨[(.int (19) 0), (.int (4) 0), (.ref 85)]⟩), ⟨[]⟩⟩
def o57 : Obj := ⟨(.type "code"), none, (.fields ⟨[(.str "NoDivision" 266), (.str "NoDivision" 267), (.str "/claim/cut.py" 268), (.int (17) 0), (.int (0) 0), (.int (0) 0), (.int (0) 0), (.int (0) 0), (.ref 76), (.bool false), (.int (181) 0), (.ref 77), .none, .none, .none, .none, (.int (269) 0), (.int (17) 0), (.str "/claim/cut.py" 270)]⟩), ⟨[]⟩⟩
def o58 : Obj := ⟨(.type "frame"), none, .plain, ⟨[(some (.ref 78)), (some (.ref 3)), (some (.ref 75)), none, (some (.str "bitsback.errors" 194)), none, (some (.ref 0))]⟩⟩
def o59 : Obj := ⟨(.type "tuple"), none, (.seq ⟨[(.str "self" 279)]⟩ 0), ⟨[]⟩⟩
def o60 : Obj := ⟨.none, none, (fu (inClass (top 5) 0) "__init__" "NoDivision.__init__" 0 [] .none .none .none .none none .none .none 0), ⟨[]⟩⟩
def o61 : Obj := ⟨(.type "code"), none, (.fields ⟨[(.str "__init__" 276), (.str "NoDivision.__init__" 277), (.str "/claim/cut.py" 278), (.int (19) 0), (.int (1) 0), (.int (0) 0), (.int (0) 0), (.int (3) 0), (.ref 80), (.bool true), (.int (181) 0), (.ref 81), .none, (.ref 82), (.ref 83), (.ref 84), (.int (280) 0), (.int (19) 0), (.str "/claim/cut.py" 281)]⟩), ⟨[]⟩⟩
def o62 : Obj := ⟨(.type "function"), none, (fu (inClass (top 5) 0) "__init__" "NoDivision.__init__" 3 [] .none .none .none (.str "bitsback.errors" 194) none (.ref 85) .none 0), ⟨[]⟩⟩
def o63 (P : Params) : Obj := ⟨(.type "dict"), none, (.dict ⟨[de P "__module__" 271 (.str "bitsback.errors" 194), de P "__firstlineno__" 275 (.int (17) 274), de P "__init__" 282 (.ref 86), de P "__static_attributes__" 283 (.ref 87), de P "__doc__" 284 .none]⟩ 2), ⟨[]⟩⟩
def o64 : Obj := ⟨(.type "type"), none, (.cls ⟨"NoDivision", [(.ref 31)], [(.ref 89), (.ref 31), (.type "ValueError"), (.type "Exception"), (.type "BaseException"), (.type "object")], 88, "NoDivision", true, [], [], false, none, false⟩), ⟨[(some (.ref 73)), none, (some (.str "NoDivision" 264)), (some (.str "NoDivision" 272)), (some (.builtin "ValueError.__new__")), (some (.bool true))]⟩⟩
def o65 : Obj := ⟨(.type "super"), none, (.fields ⟨[(.ref 89), (.ref 89), (.ref 89)]⟩), ⟨[]⟩⟩
def o66 : Obj := ⟨(.type "builtin_function_or_method"), none, (.fields ⟨[(.builtin "object.__init_subclass__"), (.ref 89)]⟩), ⟨[]⟩⟩
def o67 (P : Params) : Obj := ⟨(.type "dict"), none, (.dict ⟨[de P "__name__" 165 (.str "bitsback.polys" 312), de P "__doc__" 166 .none, de P "__package__" 167 .none, de P "__loader__" 168 (.builtin "__main__.__loader__#opaque"), de P "__spec__" 169 .none, de P "__annotations__" 170 (.ref 6), de P "__builtins__" 171 (.ref 4), de P "__file__" 173 (.str "/claim/cut.py" 172), de P "__cached__" 174 .none, de P "_wall" 193 (.ref 21), de P "BitsError" 213 (.ref 31), de P "BadNumber" 238 (.ref 51), de P "BadBeat" 263 (.ref 70), de P "NoDivision" 286 (.ref 89), de P "TooLarge" 311 (.ref 108), de P "MOST" 315 (.int (24) 314), de P "times_of" 325 (.ref 117), de P "divided" 336 (.ref 124), de P "power_of" 347 (.ref 131)]⟩ 19), ⟨[]⟩⟩
def o68 : Obj := ⟨.none, none, (.fields ⟨[(.int (1) 0), (.int (0) 0), (.ref 20), (.int (5) 0), (.int (0) 0), (.ref 27), (.int (7) 0), (.int (0) 0), (.ref 40), (.int (12) 0), (.int (0) 0), (.ref 59), (.int (17) 0), (.int (0) 0), (.ref 78), (.int (21) 0), (.int (0) 0), (.ref 97), (.int (28) 0), (.int (0) 0), (.ref 116), (.int (34) 0), (.int (0) 0), (.ref 123), (.int (42) 0), (.int (0) 0), (.ref 130)]⟩), ⟨[]⟩⟩
def o69 : Obj := ⟨(.type "type"), none, (.cls ⟨"BitsError", [(.type "ValueError")], [(.ref 31), (.type "ValueError"), (.type "Exception"), (.type "BaseException"), (.type "object")], 30, "BitsError", true, [], [(.ref 51), (.ref 70), (.ref 89), (.ref 108)], false, none, false⟩), ⟨[(some (.ref 22)), none, (some (.str "BitsError" 196)), (some (.str "BitsError" 204)), (some (.builtin "ValueError.__new__")), (some (.bool true))]⟩⟩
def o70 (P : Params) : Obj := ⟨(.type "dict"), none, (.dict ⟨[de P "__module__" 294 (.str "bitsback.errors" 194), de P "__qualname__" 296 (.str "TooLarge" 295), de P "__firstlineno__" 298 (.int (21) 297), de P "__init__" 306 (.ref 105), de P "__static_attributes__" 308 (.ref 106)]⟩ 5), ⟨[]⟩⟩
def o71 : Obj := ⟨.none, none, (.fields ⟨[(.int (23) 0), (.int (4) 0), (.ref 104)]⟩), ⟨[]⟩⟩
def o72 : Obj := ⟨(.type "code"), none, (.fields ⟨[(.str "TooLarge" 289), (.str "TooLarge" 290), (.str "/claim/cut.py" 291), (.int (21) 0), (.int (0) 0), (.int (0) 0), (.int (0) 0), (.int (0) 0), (.ref 95), (.bool false), (.int (181) 0), (.ref 96), .none, .none, .none, .none, (.int (292) 0), (.int (21) 0), (.str "/claim/cut.py" 293)]⟩), ⟨[]⟩⟩
def o73 : Obj := ⟨(.type "frame"), none, .plain, ⟨[(some (.ref 97)), (some (.ref 3)), (some (.ref 94)), none, (some (.str "bitsback.errors" 194)), none, (some (.ref 0))]⟩⟩
def o74 : Obj := ⟨(.type "tuple"), none, (.seq ⟨[(.str "self" 302), (.str "size" 303)]⟩ 0), ⟨[]⟩⟩
def o75 : Obj := ⟨.none, none, (fu (inClass (top 6) 0) "__init__" "TooLarge.__init__" 0 [] .none .none .none .none none .none .none 0), ⟨[]⟩⟩
def o76 : Obj := ⟨(.type "code"), none, (.fields ⟨[(.str "__init__" 299), (.str "TooLarge.__init__" 300), (.str "/claim/cut.py" 301), (.int (23) 0), (.int (2) 0), (.int (0) 0), (.int (0) 0), (.int (3) 0), (.ref 99), (.bool true), (.int (181) 0), (.ref 100), .none, (.ref 101), (.ref 102), (.ref 103), (.int (304) 0), (.int (23) 0), (.str "/claim/cut.py" 305)]⟩), ⟨[]⟩⟩
def o77 : Obj := ⟨(.type "function"), none, (fu (inClass (top 6) 0) "__init__" "TooLarge.__init__" 3 [] .none .none .none (.str "bitsback.errors" 194) none (.ref 104) .none 0), ⟨[]⟩⟩
def o78 : Obj := ⟨(.type "tuple"), none, (.seq ⟨[(.str "size" 307)]⟩ 0), ⟨[]⟩⟩
def o79 (P : Params) : Obj := ⟨(.type "dict"), none, (.dict ⟨[de P "__module__" 294 (.str "bitsback.errors" 194), de P "__firstlineno__" 298 (.int (21) 297), de P "__init__" 306 (.ref 105), de P "__static_attributes__" 308 (.ref 106), de P "__doc__" 309 .none]⟩ 2), ⟨[]⟩⟩
def o80 : Obj := ⟨(.type "type"), none, (.cls ⟨"TooLarge", [(.ref 31)], [(.ref 108), (.ref 31), (.type "ValueError"), (.type "Exception"), (.type "BaseException"), (.type "object")], 107, "TooLarge", true, [], [], false, none, false⟩), ⟨[(some (.ref 92)), none, (some (.str "TooLarge" 287)), (some (.str "TooLarge" 295)), (some (.builtin "ValueError.__new__")), (some (.bool true))]⟩⟩
def o81 : Obj := ⟨(.type "super"), none, (.fields ⟨[(.ref 108), (.ref 108), (.ref 108)]⟩), ⟨[]⟩⟩
def o82 : Obj := ⟨(.type "builtin_function_or_method"), none, (.fields ⟨[(.builtin "object.__init_subclass__"), (.ref 108)]⟩), ⟨[]⟩⟩
def o83 : Obj := ⟨(.type "tuple"), none, (.seq ⟨[(.str "one" 319), (.str "other" 320), (.str "found" 321), (.str "shift" 322)]⟩ 0), ⟨[]⟩⟩
def o84 : Obj := ⟨.none, none, (fu (top 9) "times_of" "times_of" 0 [] .none .none .none .none none .none .none 0), ⟨[]⟩⟩
def o85 : Obj := ⟨(.type "code"), none, (.fields ⟨[(.str "times_of" 316), (.str "times_of" 317), (.str "/claim/cut.py" 318), (.int (28) 0), (.int (2) 0), (.int (0) 0), (.int (0) 0), (.int (3) 0), (.ref 111), (.bool true), (.int (181) 0), (.ref 112), .none, (.ref 113), (.ref 114), (.ref 115), (.int (323) 0), (.int (28) 0), (.str "/claim/cut.py" 324)]⟩), ⟨[]⟩⟩
def o86 : Obj := ⟨(.type "function"), none, (fu (top 9) "times_of" "times_of" 3 [] .none .none .none (.str "bitsback.polys" 312) none (.ref 116) .none 0), ⟨[]⟩⟩
def o87 : Obj := ⟨(.type "tuple"), none, (.seq ⟨[(.str "one" 329), (.str "other" 330), (.str "quotient" 331), (.str "rest" 332), (.str "shift" 333)]⟩ 0), ⟨[]⟩⟩
def o88 : Obj := ⟨.none, none, (fu (top 10) "divided" "divided" 0 [] .none .none .none .none none .none .none 0), ⟨[]⟩⟩
def o89 : Obj := ⟨(.type "code"), none, (.fields ⟨[(.str "divided" 326), (.str "divided" 327), (.str "/claim/cut.py" 328), (.int (34) 0), (.int (2) 0), (.int (0) 0), (.int (0) 0), (.int (3) 0), (.ref 118), (.bool true), (.int (181) 0), (.ref 119), .none, (.ref 120), (.ref 121), (.ref 122), (.int (334) 0), (.int (34) 0), (.str "/claim/cut.py" 335)]⟩), ⟨[]⟩⟩
def o90 : Obj := ⟨(.type "function"), none, (fu (top 10) "divided" "divided" 3 [] .none .none .none (.str "bitsback.polys" 312) none (.ref 123) .none 0), ⟨[]⟩⟩
def o91 : Obj := ⟨(.type "tuple"), none, (.seq ⟨[(.str "number" 340), (.str "n" 341), (.str "found" 342), (.str "base" 343), (.str "rest" 344)]⟩ 0), ⟨[]⟩⟩
def o92 : Obj := ⟨.none, none, (fu (top 11) "power_of" "power_of" 0 [] .none .none .none .none none .none .none 0), ⟨[]⟩⟩
def o93 : Obj := ⟨(.type "code"), none, (.fields ⟨[(.str "power_of" 337), (.str "power_of" 338), (.str "/claim/cut.py" 339), (.int (42) 0), (.int (2) 0), (.int (0) 0), (.int (0) 0), (.int (3) 0), (.ref 125), (.bool true), (.int (181) 0), (.ref 126), .none, (.ref 127), (.ref 128), (.ref 129), (.int (345) 0), (.int (42) 0), (.str "/claim/cut.py" 346)]⟩), ⟨[]⟩⟩
def o94 : Obj := ⟨(.type "function"), none, (fu (top 11) "power_of" "power_of" 3 [] .none .none .none (.str "bitsback.polys" 312) none (.ref 130) .none 0), ⟨[]⟩⟩
def o95 (P : Params) : Obj := ⟨(.type "dict"), none, (.dict ⟨[de P "__name__" 165 (.str "law_bitsback_k05_whole_products_told_back" 480), de P "__doc__" 166 .none, de P "__package__" 167 .none, de P "__loader__" 168 (.builtin "__main__.__loader__#opaque"), de P "__spec__" 169 .none, de P "__annotations__" 170 (.ref 6), de P "__builtins__" 171 (.ref 4), de P "__file__" 173 (.str "/claim/cut.py" 172), de P "__cached__" 174 .none, de P "_wall" 193 (.ref 21), de P "BitsError" 213 (.ref 31), de P "BadNumber" 238 (.ref 51), de P "BadBeat" 263 (.ref 70), de P "NoDivision" 286 (.ref 89), de P "TooLarge" 311 (.ref 108), de P "MOST" 315 (.int (24) 314), de P "times_of" 325 (.ref 117), de P "divided" 336 (.ref 124), de P "power_of" 347 (.ref 131), de P "Poly" 457 (.ref 221), de P "gcd_of" 467 (.ref 232), de P "factors_of" 479 (.ref 239), de P "_law_start" 489 (.ref 246), de P "_law_draw" 500 (.ref 253), de P "_law_times" 510 (.ref 260), de P "_law_divided" 521 (.ref 267), de P "_law_primes" 527 (.ref 272), de P "_law_row" 540 (.ref 279), de P "_law_product" 549 (.ref 286), de P "_law_counts" 555 (.ref 291)]⟩ 30), ⟨[]⟩⟩
def o96 : Obj := ⟨.none, none, (.fields ⟨[(.int (1) 0), (.int (0) 0), (.ref 20), (.int (5) 0), (.int (0) 0), (.ref 27), (.int (7) 0), (.int (0) 0), (.ref 40), (.int (12) 0), (.int (0) 0), (.ref 59), (.int (17) 0), (.int (0) 0), (.ref 78), (.int (21) 0), (.int (0) 0), (.ref 97), (.int (28) 0), (.int (0) 0), (.ref 116), (.int (34) 0), (.int (0) 0), (.ref 123), (.int (42) 0), (.int (0) 0), (.ref 130), (.int (52) 0), (.int (0) 0), (.ref 137), (.int (96) 0), (.int (0) 0), (.ref 231), (.int (102) 0), (.int (0) 0), (.ref 238), (.int (123) 0), (.int (0) 0), (.ref 245), (.int (128) 0), (.int (0) 0), (.ref 252), (.int (140) 0), (.int (0) 0), (.ref 259), (.int (147) 0), (.int (0) 0), (.ref 266), (.int (155) 0), (.int (0) 0), (.ref 271), (.int (161) 0), (.int (0) 0), (.ref 278), (.int (170) 0), (.int (0) 0), (.ref 285), (.int (175) 0), (.int (0) 0), (.ref 290)]⟩), ⟨[]⟩⟩
def o97 (P : Params) : Obj := ⟨(.type "dict"), none, (.dict ⟨[de P "__module__" 355 (.str "bitsback.polys" 312), de P "__qualname__" 357 (.str "Poly" 356), de P "__firstlineno__" 359 (.int (52) 358), de P "__init__" 368 (.ref 146), de P "degree" 376 (.ref 154), de P "lowest" 384 (.ref 162), de P "bit" 392 (.ref 169), de P "__bool__" 399 (.ref 176), de P "__eq__" 407 (.ref 183), de P "__add__" 415 (.ref 190), de P "__mul__" 423 (.ref 197), de P "__floordiv__" 431 (.ref 204), de P "__mod__" 439 (.ref 211), de P "power" 447 (.ref 218), de P "__static_attributes__" 449 (.ref 219)]⟩ 15), ⟨[]⟩⟩
def o98 : Obj := ⟨.none, none, (.fields ⟨[(.int (54) 0), (.int (4) 0), (.ref 145), (.int (60) 0), (.int (4) 0), (.ref 152), (.int (64) 0), (.int (4) 0), (.ref 160), (.int (67) 0), (.int (4) 0), (.ref 168), (.int (70) 0), (.int (4) 0), (.ref 175), (.int (73) 0), (.int (4) 0), (.ref 182), (.int (76) 0), (.int (4) 0), (.ref 189), (.int (79) 0), (.int (4) 0), (.ref 196), (.int (82) 0), (.int (4) 0), (.ref 203), (.int (87) 0), (.int (4) 0), (.ref 210), (.int (92) 0), (.int (4) 0), (.ref 217)]⟩), ⟨[]⟩⟩
def o99 : Obj := ⟨(.type "code"), none, (.fields ⟨[(.str "Poly" 350), (.str "Poly" 351), (.str "/claim/cut.py" 352), (.int (52) 0), (.int (0) 0), (.int (0) 0), (.int (0) 0), (.int (0) 0), (.ref 135), (.bool false), (.int (181) 0), (.ref 136), .none, .none, .none, .none, (.int (353) 0), (.int (52) 0), (.str "/claim/cut.py" 354)]⟩), ⟨[]⟩⟩
def o100 : Obj := ⟨(.type "frame"), none, .plain, ⟨[(some (.ref 137)), (some (.ref 3)), (some (.ref 134)), none, (some (.str "bitsback.polys" 312)), none, (some (.ref 0))]⟩⟩
def o101 : Obj := ⟨(.type "tuple"), none, (.seq ⟨[(.int (0) 360)]⟩ 0), ⟨[]⟩⟩
def o102 : Obj := ⟨(.type "tuple"), none, (.seq ⟨[(.str "self" 364), (.str "number" 365)]⟩ 0), ⟨[]⟩⟩
def o103 : Obj := ⟨.none, none, (fu (inClass (top 12) 0) "__init__" "Poly.__init__" 0 [] .none .none .none .none none .none .none 0), ⟨[]⟩⟩
def o104 : Obj := ⟨(.type "code"), none, (.fields ⟨[(.str "__init__" 361), (.str "Poly.__init__" 362), (.str "/claim/cut.py" 363), (.int (54) 0), (.int (2) 0), (.int (0) 0), (.int (0) 0), (.int (3) 0), (.ref 140), (.bool true), (.int (181) 0), (.ref 141), .none, (.ref 142), (.ref 143), (.ref 144), (.int (366) 0), (.int (54) 0), (.str "/claim/cut.py" 367)]⟩), ⟨[]⟩⟩
def o105 : Obj := ⟨(.type "function"), none, (fu (inClass (top 12) 0) "__init__" "Poly.__init__" 3 [] (.ref 139) .none .none (.str "bitsback.polys" 312) none (.ref 145) .none 0), ⟨[]⟩⟩
def o106 : Obj := ⟨(.type "tuple"), none, (.seq ⟨[(.str "self" 372)]⟩ 0), ⟨[]⟩⟩
def o107 : Obj := ⟨.none, none, (fu (inClass (top 12) 1) "degree" "Poly.degree" 0 [] .none .none .none .none none .none .none 0), ⟨[]⟩⟩
def o108 : Obj := ⟨(.type "code"), none, (.fields ⟨[(.str "degree" 369), (.str "Poly.degree" 370), (.str "/claim/cut.py" 371), (.int (59) 0), (.int (1) 0), (.int (0) 0), (.int (0) 0), (.int (3) 0), (.ref 147), (.bool true), (.int (181) 0), (.ref 148), .none, (.ref 149), (.ref 150), (.ref 151), (.int (373) 0), (.int (59) 0), (.str "/claim/cut.py" 374)]⟩), ⟨[]⟩⟩
def o109 : Obj := ⟨(.type "function"), none, (fu (inClass (top 12) 1) "degree" "Poly.degree" 3 [] .none .none .none (.str "bitsback.polys" 312) none (.ref 152) .none 0), ⟨[]⟩⟩
def o110 : Obj := ⟨(.type "property"), none, (.fields ⟨[(.ref 153), .none, .none, .none, (.str "degree" 376), (.bool false)]⟩), ⟨[]⟩⟩
def o111 : Obj := ⟨(.type "tuple"), none, (.seq ⟨[(.str "self" 380)]⟩ 0), ⟨[]⟩⟩
def o112 : Obj := ⟨.none, none, (fu (inClass (top 12) 2) "lowest" "Poly.lowest" 0 [] .none .none .none .none none .none .none 0), ⟨[]⟩⟩
def o113 : Obj := ⟨(.type "code"), none, (.fields ⟨[(.str "lowest" 377), (.str "Poly.lowest" 378), (.str "/claim/cut.py" 379), (.int (63) 0), (.int (1) 0), (.int (0) 0), (.int (0) 0), (.int (3) 0), (.ref 155), (.bool true), (.int (181) 0), (.ref 156), .none, (.ref 157), (.ref 158), (.ref 159), (.int (381) 0), (.int (63) 0), (.str "/claim/cut.py" 382)]⟩), ⟨[]⟩⟩
def o114 : Obj := ⟨(.type "function"), none, (fu (inClass (top 12) 2) "lowest" "Poly.lowest" 3 [] .none .none .none (.str "bitsback.polys" 312) none (.ref 160) .none 0), ⟨[]⟩⟩
def o115 : Obj := ⟨(.type "property"), none, (.fields ⟨[(.ref 161), .none, .none, .none, (.str "lowest" 384), (.bool false)]⟩), ⟨[]⟩⟩
def o116 : Obj := ⟨(.type "tuple"), none, (.seq ⟨[(.str "self" 388), (.str "n" 389)]⟩ 0), ⟨[]⟩⟩
def o117 : Obj := ⟨.none, none, (fu (inClass (top 12) 3) "bit" "Poly.bit" 0 [] .none .none .none .none none .none .none 0), ⟨[]⟩⟩
def o118 : Obj := ⟨(.type "code"), none, (.fields ⟨[(.str "bit" 385), (.str "Poly.bit" 386), (.str "/claim/cut.py" 387), (.int (67) 0), (.int (2) 0), (.int (0) 0), (.int (0) 0), (.int (3) 0), (.ref 163), (.bool true), (.int (181) 0), (.ref 164), .none, (.ref 165), (.ref 166), (.ref 167), (.int (390) 0), (.int (67) 0), (.str "/claim/cut.py" 391)]⟩), ⟨[]⟩⟩
def o119 : Obj := ⟨(.type "function"), none, (fu (inClass (top 12) 3) "bit" "Poly.bit" 3 [] .none .none .none (.str "bitsback.polys" 312) none (.ref 168) .none 0), ⟨[]⟩⟩
def o120 : Obj := ⟨(.type "tuple"), none, (.seq ⟨[(.str "self" 396)]⟩ 0), ⟨[]⟩⟩
def o121 : Obj := ⟨.none, none, (fu (inClass (top 12) 4) "__bool__" "Poly.__bool__" 0 [] .none .none .none .none none .none .none 0), ⟨[]⟩⟩
def o122 : Obj := ⟨(.type "code"), none, (.fields ⟨[(.str "__bool__" 393), (.str "Poly.__bool__" 394), (.str "/claim/cut.py" 395), (.int (70) 0), (.int (1) 0), (.int (0) 0), (.int (0) 0), (.int (3) 0), (.ref 170), (.bool true), (.int (181) 0), (.ref 171), .none, (.ref 172), (.ref 173), (.ref 174), (.int (397) 0), (.int (70) 0), (.str "/claim/cut.py" 398)]⟩), ⟨[]⟩⟩
def o123 : Obj := ⟨(.type "function"), none, (fu (inClass (top 12) 4) "__bool__" "Poly.__bool__" 3 [] .none .none .none (.str "bitsback.polys" 312) none (.ref 175) .none 0), ⟨[]⟩⟩
def o124 : Obj := ⟨(.type "tuple"), none, (.seq ⟨[(.str "self" 403), (.str "other" 404)]⟩ 0), ⟨[]⟩⟩
def o125 : Obj := ⟨.none, none, (fu (inClass (top 12) 5) "__eq__" "Poly.__eq__" 0 [] .none .none .none .none none .none .none 0), ⟨[]⟩⟩
def o126 : Obj := ⟨(.type "code"), none, (.fields ⟨[(.str "__eq__" 400), (.str "Poly.__eq__" 401), (.str "/claim/cut.py" 402), (.int (73) 0), (.int (2) 0), (.int (0) 0), (.int (0) 0), (.int (3) 0), (.ref 177), (.bool true), (.int (181) 0), (.ref 178), .none, (.ref 179), (.ref 180), (.ref 181), (.int (405) 0), (.int (73) 0), (.str "/claim/cut.py" 406)]⟩), ⟨[]⟩⟩
def o127 : Obj := ⟨(.type "function"), none, (fu (inClass (top 12) 5) "__eq__" "Poly.__eq__" 3 [] .none .none .none (.str "bitsback.polys" 312) none (.ref 182) .none 0), ⟨[]⟩⟩
def o128 : Obj := ⟨(.type "tuple"), none, (.seq ⟨[(.str "self" 411), (.str "other" 412)]⟩ 0), ⟨[]⟩⟩
def o129 : Obj := ⟨.none, none, (fu (inClass (top 12) 6) "__add__" "Poly.__add__" 0 [] .none .none .none .none none .none .none 0), ⟨[]⟩⟩
def o130 : Obj := ⟨(.type "code"), none, (.fields ⟨[(.str "__add__" 408), (.str "Poly.__add__" 409), (.str "/claim/cut.py" 410), (.int (76) 0), (.int (2) 0), (.int (0) 0), (.int (0) 0), (.int (3) 0), (.ref 184), (.bool true), (.int (181) 0), (.ref 185), .none, (.ref 186), (.ref 187), (.ref 188), (.int (413) 0), (.int (76) 0), (.str "/claim/cut.py" 414)]⟩), ⟨[]⟩⟩
def o131 : Obj := ⟨(.type "function"), none, (fu (inClass (top 12) 6) "__add__" "Poly.__add__" 3 [] .none .none .none (.str "bitsback.polys" 312) none (.ref 189) .none 0), ⟨[]⟩⟩
def o132 : Obj := ⟨(.type "tuple"), none, (.seq ⟨[(.str "self" 419), (.str "other" 420)]⟩ 0), ⟨[]⟩⟩
def o133 : Obj := ⟨.none, none, (fu (inClass (top 12) 7) "__mul__" "Poly.__mul__" 0 [] .none .none .none .none none .none .none 0), ⟨[]⟩⟩
def o134 : Obj := ⟨(.type "code"), none, (.fields ⟨[(.str "__mul__" 416), (.str "Poly.__mul__" 417), (.str "/claim/cut.py" 418), (.int (79) 0), (.int (2) 0), (.int (0) 0), (.int (0) 0), (.int (3) 0), (.ref 191), (.bool true), (.int (181) 0), (.ref 192), .none, (.ref 193), (.ref 194), (.ref 195), (.int (421) 0), (.int (79) 0), (.str "/claim/cut.py" 422)]⟩), ⟨[]⟩⟩
def o135 : Obj := ⟨(.type "function"), none, (fu (inClass (top 12) 7) "__mul__" "Poly.__mul__" 3 [] .none .none .none (.str "bitsback.polys" 312) none (.ref 196) .none 0), ⟨[]⟩⟩
def o136 : Obj := ⟨(.type "tuple"), none, (.seq ⟨[(.str "self" 427), (.str "other" 428)]⟩ 0), ⟨[]⟩⟩
def o137 : Obj := ⟨.none, none, (fu (inClass (top 12) 8) "__floordiv__" "Poly.__floordiv__" 0 [] .none .none .none .none none .none .none 0), ⟨[]⟩⟩
def o138 : Obj := ⟨(.type "code"), none, (.fields ⟨[(.str "__floordiv__" 424), (.str "Poly.__floordiv__" 425), (.str "/claim/cut.py" 426), (.int (82) 0), (.int (2) 0), (.int (0) 0), (.int (0) 0), (.int (3) 0), (.ref 198), (.bool true), (.int (181) 0), (.ref 199), .none, (.ref 200), (.ref 201), (.ref 202), (.int (429) 0), (.int (82) 0), (.str "/claim/cut.py" 430)]⟩), ⟨[]⟩⟩
def o139 : Obj := ⟨(.type "function"), none, (fu (inClass (top 12) 8) "__floordiv__" "Poly.__floordiv__" 3 [] .none .none .none (.str "bitsback.polys" 312) none (.ref 203) .none 0), ⟨[]⟩⟩
def o140 : Obj := ⟨(.type "tuple"), none, (.seq ⟨[(.str "self" 435), (.str "other" 436)]⟩ 0), ⟨[]⟩⟩
def o141 : Obj := ⟨.none, none, (fu (inClass (top 12) 9) "__mod__" "Poly.__mod__" 0 [] .none .none .none .none none .none .none 0), ⟨[]⟩⟩
def o142 : Obj := ⟨(.type "code"), none, (.fields ⟨[(.str "__mod__" 432), (.str "Poly.__mod__" 433), (.str "/claim/cut.py" 434), (.int (87) 0), (.int (2) 0), (.int (0) 0), (.int (0) 0), (.int (3) 0), (.ref 205), (.bool true), (.int (181) 0), (.ref 206), .none, (.ref 207), (.ref 208), (.ref 209), (.int (437) 0), (.int (87) 0), (.str "/claim/cut.py" 438)]⟩), ⟨[]⟩⟩
def o143 : Obj := ⟨(.type "function"), none, (fu (inClass (top 12) 9) "__mod__" "Poly.__mod__" 3 [] .none .none .none (.str "bitsback.polys" 312) none (.ref 210) .none 0), ⟨[]⟩⟩
def o144 : Obj := ⟨(.type "tuple"), none, (.seq ⟨[(.str "self" 443), (.str "n" 444)]⟩ 0), ⟨[]⟩⟩
def o145 : Obj := ⟨.none, none, (fu (inClass (top 12) 10) "power" "Poly.power" 0 [] .none .none .none .none none .none .none 0), ⟨[]⟩⟩
def o146 : Obj := ⟨(.type "code"), none, (.fields ⟨[(.str "power" 440), (.str "Poly.power" 441), (.str "/claim/cut.py" 442), (.int (92) 0), (.int (2) 0), (.int (0) 0), (.int (0) 0), (.int (3) 0), (.ref 212), (.bool true), (.int (181) 0), (.ref 213), .none, (.ref 214), (.ref 215), (.ref 216), (.int (445) 0), (.int (92) 0), (.str "/claim/cut.py" 446)]⟩), ⟨[]⟩⟩
def o147 : Obj := ⟨(.type "function"), none, (fu (inClass (top 12) 10) "power" "Poly.power" 3 [] .none .none .none (.str "bitsback.polys" 312) none (.ref 217) .none 0), ⟨[]⟩⟩
def o148 : Obj := ⟨(.type "tuple"), none, (.seq ⟨[(.str "number" 448)]⟩ 0), ⟨[]⟩⟩
def o149 (P : Params) : Obj := ⟨(.type "dict"), none, (.dict ⟨[de P "__module__" 355 (.str "bitsback.polys" 312), de P "__firstlineno__" 359 (.int (52) 358), de P "__init__" 368 (.ref 146), de P "degree" 376 (.ref 154), de P "lowest" 384 (.ref 162), de P "bit" 392 (.ref 169), de P "__bool__" 399 (.ref 176), de P "__eq__" 407 (.ref 183), de P "__add__" 415 (.ref 190), de P "__mul__" 423 (.ref 197), de P "__floordiv__" 431 (.ref 204), de P "__mod__" 439 (.ref 211), de P "power" 447 (.ref 218), de P "__static_attributes__" 449 (.ref 219), de P "__dict__" 451 (.ref 222), de P "__weakref__" 453 (.ref 223), de P "__doc__" 454 .none, de P "__hash__" 455 .none]⟩ 5), ⟨[]⟩⟩
def o150 : Obj := ⟨(.type "type"), none, (.cls ⟨"Poly", [(.type "object")], [(.ref 221), (.type "object")], 220, "Poly", true, [], [], false, none, false⟩), ⟨[none, none, (some (.str "Poly" 348)), (some (.str "Poly" 356)), (some (.builtin "object.__new__")), (some (.bool true))]⟩⟩
def o151 : Obj := ⟨(.type "getset_descriptor"), none, (.fields ⟨[(.str "__dict__" 450), (.ref 221), (.builtin "function.__dict__"), (.builtin "function.__dict__#set")]⟩), ⟨[]⟩⟩
def o152 : Obj := ⟨(.type "getset_descriptor"), none, (.fields ⟨[(.str "__weakref__" 452), (.ref 221), (.builtin "ExceptionGroup.__weakref__"), .none]⟩), ⟨[]⟩⟩
def o153 : Obj := ⟨(.type "super"), none, (.fields ⟨[(.ref 221), (.ref 221), (.ref 221)]⟩), ⟨[]⟩⟩
def o154 : Obj := ⟨(.type "builtin_function_or_method"), none, (.fields ⟨[(.builtin "object.__init_subclass__"), (.ref 221)]⟩), ⟨[]⟩⟩
def o155 : Obj := ⟨(.type "tuple"), none, (.seq ⟨[(.str "a" 461), (.str "b" 462), (.str "one" 463), (.str "other" 464)]⟩ 0), ⟨[]⟩⟩
def o156 : Obj := ⟨.none, none, (fu (top 13) "gcd_of" "gcd_of" 0 [] .none .none .none .none none .none .none 0), ⟨[]⟩⟩
def o157 : Obj := ⟨(.type "code"), none, (.fields ⟨[(.str "gcd_of" 458), (.str "gcd_of" 459), (.str "/claim/cut.py" 460), (.int (96) 0), (.int (2) 0), (.int (0) 0), (.int (0) 0), (.int (3) 0), (.ref 226), (.bool true), (.int (181) 0), (.ref 227), .none, (.ref 228), (.ref 229), (.ref 230), (.int (465) 0), (.int (96) 0), (.str "/claim/cut.py" 466)]⟩), ⟨[]⟩⟩
def o158 : Obj := ⟨(.type "function"), none, (fu (top 13) "gcd_of" "gcd_of" 3 [] .none .none .none (.str "bitsback.polys" 312) none (.ref 231) .none 0), ⟨[]⟩⟩
def o159 : Obj := ⟨(.type "tuple"), none, (.seq ⟨[(.str "a" 471), (.str "found" 472), (.str "rest" 473), (.str "number" 474), (.str "factor" 475), (.str "exponent" 476)]⟩ 0), ⟨[]⟩⟩
def o160 : Obj := ⟨.none, none, (fu (top 14) "factors_of" "factors_of" 0 [] .none .none .none .none none .none .none 0), ⟨[]⟩⟩
def o161 : Obj := ⟨(.type "code"), none, (.fields ⟨[(.str "factors_of" 468), (.str "factors_of" 469), (.str "/claim/cut.py" 470), (.int (102) 0), (.int (1) 0), (.int (0) 0), (.int (0) 0), (.int (3) 0), (.ref 233), (.bool true), (.int (181) 0), (.ref 234), .none, (.ref 235), (.ref 236), (.ref 237), (.int (477) 0), (.int (102) 0), (.str "/claim/cut.py" 478)]⟩), ⟨[]⟩⟩
def o162 : Obj := ⟨(.type "function"), none, (fu (top 14) "factors_of" "factors_of" 3 [] .none .none .none (.str "bitsback.polys" 312) none (.ref 238) .none 0), ⟨[]⟩⟩
def o163 : Obj := ⟨(.type "tuple"), none, (.seq ⟨[(.str "_law_script" 485), (.str "_law_first" 486)]⟩ 0), ⟨[]⟩⟩
def o164 : Obj := ⟨.none, none, (fu (top 16) "_law_start" "_law_start" 0 [] .none .none .none .none none .none .none 0), ⟨[]⟩⟩
def o165 : Obj := ⟨(.type "code"), none, (.fields ⟨[(.str "_law_start" 482), (.str "_law_start" 483), (.str "/claim/cut.py" 484), (.int (123) 0), (.int (1) 0), (.int (0) 0), (.int (0) 0), (.int (3) 0), (.ref 240), (.bool true), (.int (181) 0), (.ref 241), .none, (.ref 242), (.ref 243), (.ref 244), (.int (487) 0), (.int (123) 0), (.str "/claim/cut.py" 488)]⟩), ⟨[]⟩⟩
def o166 : Obj := ⟨(.type "function"), none, (fu (top 16) "_law_start" "_law_start" 3 [] .none .none .none (.str "law_bitsback_k05_whole_products_told_back" 480) none (.ref 245) .none 0), ⟨[]⟩⟩
def o167 : Obj := ⟨(.type "tuple"), none, (.seq ⟨[(.str "_law_state" 493), (.str "_law_many" 494), (.str "_law_drawn" 495), (.str "_law_seed" 496), (.str "_law_mixed" 497)]⟩ 0), ⟨[]⟩⟩
def o168 : Obj := ⟨.none, none, (fu (top 17) "_law_draw" "_law_draw" 0 [] .none .none .none .none none .none .none 0), ⟨[]⟩⟩
def o169 : Obj := ⟨(.type "code"), none, (.fields ⟨[(.str "_law_draw" 490), (.str "_law_draw" 491), (.str "/claim/cut.py" 492), (.int (128) 0), (.int (2) 0), (.int (0) 0), (.int (0) 0), (.int (3) 0), (.ref 247), (.bool true), (.int (181) 0), (.ref 248), .none, (.ref 249), (.ref 250), (.ref 251), (.int (498) 0), (.int (128) 0), (.str "/claim/cut.py" 499)]⟩), ⟨[]⟩⟩
def o170 : Obj := ⟨(.type "function"), none, (fu (top 17) "_law_draw" "_law_draw" 3 [] .none .none .none (.str "law_bitsback_k05_whole_products_told_back" 480) none (.ref 252) .none 0), ⟨[]⟩⟩
def o171 : Obj := ⟨(.type "tuple"), none, (.seq ⟨[(.str "_law_one" 504), (.str "_law_other" 505), (.str "_law_found" 506), (.str "_law_k" 507)]⟩ 0), ⟨[]⟩⟩
def o172 : Obj := ⟨.none, none, (fu (top 18) "_law_times" "_law_times" 0 [] .none .none .none .none none .none .none 0), ⟨[]⟩⟩
def o173 : Obj := ⟨(.type "code"), none, (.fields ⟨[(.str "_law_times" 501), (.str "_law_times" 502), (.str "/claim/cut.py" 503), (.int (140) 0), (.int (2) 0), (.int (0) 0), (.int (0) 0), (.int (3) 0), (.ref 254), (.bool true), (.int (181) 0), (.ref 255), .none, (.ref 256), (.ref 257), (.ref 258), (.int (508) 0), (.int (140) 0), (.str "/claim/cut.py" 509)]⟩), ⟨[]⟩⟩
def o174 : Obj := ⟨(.type "function"), none, (fu (top 18) "_law_times" "_law_times" 3 [] .none .none .none (.str "law_bitsback_k05_whole_products_told_back" 480) none (.ref 259) .none 0), ⟨[]⟩⟩
def o175 : Obj := ⟨(.type "tuple"), none, (.seq ⟨[(.str "_law_one" 514), (.str "_law_other" 515), (.str "_law_quotient" 516), (.str "_law_rest" 517), (.str "_law_k" 518)]⟩ 0), ⟨[]⟩⟩
def o176 : Obj := ⟨.none, none, (fu (top 19) "_law_divided" "_law_divided" 0 [] .none .none .none .none none .none .none 0), ⟨[]⟩⟩
def o177 : Obj := ⟨(.type "code"), none, (.fields ⟨[(.str "_law_divided" 511), (.str "_law_divided" 512), (.str "/claim/cut.py" 513), (.int (147) 0), (.int (2) 0), (.int (0) 0), (.int (0) 0), (.int (3) 0), (.ref 261), (.bool true), (.int (181) 0), (.ref 262), .none, (.ref 263), (.ref 264), (.ref 265), (.int (519) 0), (.int (147) 0), (.str "/claim/cut.py" 520)]⟩), ⟨[]⟩⟩
def o178 : Obj := ⟨(.type "function"), none, (fu (top 19) "_law_divided" "_law_divided" 3 [] .none .none .none (.str "law_bitsback_k05_whole_products_told_back" 480) none (.ref 266) .none 0), ⟨[]⟩⟩
def o179 : Obj := ⟨.none, none, (fu (top 20) "_law_primes" "_law_primes" 0 [] .none .none .none .none none .none .none 0), ⟨[]⟩⟩
def o180 : Obj := ⟨(.type "code"), none, (.fields ⟨[(.str "_law_primes" 522), (.str "_law_primes" 523), (.str "/claim/cut.py" 524), (.int (155) 0), (.int (0) 0), (.int (0) 0), (.int (0) 0), (.int (3) 0), (.ref 268), (.bool true), (.int (181) 0), (.ref 269), .none, .none, .none, (.ref 270), (.int (525) 0), (.int (155) 0), (.str "/claim/cut.py" 526)]⟩), ⟨[]⟩⟩
def o181 : Obj := ⟨(.type "function"), none, (fu (top 20) "_law_primes" "_law_primes" 3 [] .none .none .none (.str "law_bitsback_k05_whole_products_told_back" 480) none (.ref 271) .none 0), ⟨[]⟩⟩
def o182 : Obj := ⟨(.type "tuple"), none, (.seq ⟨[(.str "_law_state" 531), (.str "_law_primes_here" 532), (.str "_law_script" 533), (.str "_law_found" 534), (.str "_law_degrees" 535), (.str "_law_cell" 536), (.str "_law_prime" 537)]⟩ 0), ⟨[]⟩⟩
def o183 : Obj := ⟨.none, none, (fu (top 21) "_law_row" "_law_row" 0 [] .none .none .none .none none .none .none 0), ⟨[]⟩⟩
def o184 : Obj := ⟨(.type "code"), none, (.fields ⟨[(.str "_law_row" 528), (.str "_law_row" 529), (.str "/claim/cut.py" 530), (.int (161) 0), (.int (3) 0), (.int (0) 0), (.int (0) 0), (.int (3) 0), (.ref 273), (.bool true), (.int (181) 0), (.ref 274), .none, (.ref 275), (.ref 276), (.ref 277), (.int (538) 0), (.int (161) 0), (.str "/claim/cut.py" 539)]⟩), ⟨[]⟩⟩
def o185 : Obj := ⟨(.type "function"), none, (fu (top 21) "_law_row" "_law_row" 3 [] .none .none .none (.str "law_bitsback_k05_whole_products_told_back" 480) none (.ref 278) .none 0), ⟨[]⟩⟩
def o186 : Obj := ⟨(.type "tuple"), none, (.seq ⟨[(.str "_law_row_here" 544), (.str "_law_found" 545), (.str "_law_number" 546)]⟩ 0), ⟨[]⟩⟩
def o187 : Obj := ⟨.none, none, (fu (top 22) "_law_product" "_law_product" 0 [] .none .none .none .none none .none .none 0), ⟨[]⟩⟩
def o188 : Obj := ⟨(.type "code"), none, (.fields ⟨[(.str "_law_product" 541), (.str "_law_product" 542), (.str "/claim/cut.py" 543), (.int (170) 0), (.int (1) 0), (.int (0) 0), (.int (0) 0), (.int (3) 0), (.ref 280), (.bool true), (.int (181) 0), (.ref 281), .none, (.ref 282), (.ref 283), (.ref 284), (.int (547) 0), (.int (170) 0), (.str "/claim/cut.py" 548)]⟩), ⟨[]⟩⟩
def o189 : Obj := ⟨(.type "function"), none, (fu (top 22) "_law_product" "_law_product" 3 [] .none .none .none (.str "law_bitsback_k05_whole_products_told_back" 480) none (.ref 285) .none 0), ⟨[]⟩⟩
def o190 : Obj := ⟨.none, none, (fu (top 23) "_law_counts" "_law_counts" 0 [] .none .none .none .none none .none .none 0), ⟨[]⟩⟩
def o191 : Obj := ⟨(.type "code"), none, (.fields ⟨[(.str "_law_counts" 550), (.str "_law_counts" 551), (.str "/claim/cut.py" 552), (.int (175) 0), (.int (1) 0), (.int (0) 0), (.int (0) 0), (.int (3) 0), (.ref 287), (.bool true), (.int (181) 0), (.ref 288), .none, .none, .none, (.ref 289), (.int (553) 0), (.int (175) 0), (.str "/claim/cut.py" 554)]⟩), ⟨[]⟩⟩
def o192 : Obj := ⟨(.type "function"), none, (fu (top 23) "_law_counts" "_law_counts" 3 [] .none .none .none (.str "law_bitsback_k05_whole_products_told_back" 480) none (.ref 290) .none 0), ⟨[]⟩⟩
def o193 (P : Params) : Obj := ⟨(.type "dict"), none, (.dict ⟨[de P "__name__" 165 (.str "law_bitsback_k05_whole_products_told_back" 480), de P "__doc__" 166 .none, de P "__package__" 167 .none, de P "__loader__" 168 (.builtin "__main__.__loader__#opaque"), de P "__spec__" 169 .none, de P "__annotations__" 170 (.ref 6), de P "__builtins__" 171 (.ref 4), de P "__file__" 173 (.str "/claim/cut.py" 172), de P "__cached__" 174 .none, de P "_wall" 193 (.ref 21), de P "BitsError" 213 (.ref 31), de P "BadNumber" 238 (.ref 51), de P "BadBeat" 263 (.ref 70), de P "NoDivision" 286 (.ref 89), de P "TooLarge" 311 (.ref 108), de P "MOST" 315 (.int (24) 314), de P "times_of" 325 (.ref 117), de P "divided" 336 (.ref 124), de P "power_of" 347 (.ref 131), de P "Poly" 457 (.ref 221), de P "gcd_of" 467 (.ref 232), de P "factors_of" 479 (.ref 239), de P "_law_start" 489 (.ref 246), de P "_law_draw" 500 (.ref 253), de P "_law_times" 510 (.ref 260), de P "_law_divided" 521 (.ref 267), de P "_law_primes" 527 (.ref 272), de P "_law_row" 540 (.ref 279), de P "_law_product" 549 (.ref 286), de P "_law_counts" 555 (.ref 291), de P "_law_told" 561 (.ref 296), de P "law" 567 (.ref 301)]⟩ 32), ⟨[]⟩⟩
def o194 : Obj := ⟨.none, none, (.fields ⟨[(.int (1) 0), (.int (0) 0), (.ref 20), (.int (5) 0), (.int (0) 0), (.ref 27), (.int (7) 0), (.int (0) 0), (.ref 40), (.int (12) 0), (.int (0) 0), (.ref 59), (.int (17) 0), (.int (0) 0), (.ref 78), (.int (21) 0), (.int (0) 0), (.ref 97), (.int (28) 0), (.int (0) 0), (.ref 116), (.int (34) 0), (.int (0) 0), (.ref 123), (.int (42) 0), (.int (0) 0), (.ref 130), (.int (52) 0), (.int (0) 0), (.ref 137), (.int (96) 0), (.int (0) 0), (.ref 231), (.int (102) 0), (.int (0) 0), (.ref 238), (.int (123) 0), (.int (0) 0), (.ref 245), (.int (128) 0), (.int (0) 0), (.ref 252), (.int (140) 0), (.int (0) 0), (.ref 259), (.int (147) 0), (.int (0) 0), (.ref 266), (.int (155) 0), (.int (0) 0), (.ref 271), (.int (161) 0), (.int (0) 0), (.ref 278), (.int (170) 0), (.int (0) 0), (.ref 285), (.int (175) 0), (.int (0) 0), (.ref 290), (.int (177) 0), (.int (0) 0), (.ref 295), (.int (179) 0), (.int (0) 0), (.ref 300)]⟩), ⟨[]⟩⟩
def o195 : Obj := ⟨.none, none, (fu (top 24) "_law_told" "_law_told" 0 [] .none .none .none .none none .none .none 0), ⟨[]⟩⟩
def o196 : Obj := ⟨(.type "code"), none, (.fields ⟨[(.str "_law_told" 556), (.str "_law_told" 557), (.str "/claim/cut.py" 558), (.int (177) 0), (.int (1) 0), (.int (0) 0), (.int (0) 0), (.int (3) 0), (.ref 292), (.bool true), (.int (181) 0), (.ref 293), .none, .none, .none, (.ref 294), (.int (559) 0), (.int (177) 0), (.str "/claim/cut.py" 560)]⟩), ⟨[]⟩⟩
def o197 : Obj := ⟨(.type "function"), none, (fu (top 24) "_law_told" "_law_told" 3 [] .none .none .none (.str "law_bitsback_k05_whole_products_told_back" 480) none (.ref 295) .none 0), ⟨[]⟩⟩
def o198 : Obj := ⟨.none, none, (fu (top 25) "law" "law" 0 [] .none .none .none .none none .none .none 0), ⟨[]⟩⟩
def o199 : Obj := ⟨(.type "code"), none, (.fields ⟨[(.str "law" 562), (.str "law" 563), (.str "/claim/cut.py" 564), (.int (179) 0), (.int (1) 0), (.int (0) 0), (.int (0) 0), (.int (3) 0), (.ref 297), (.bool true), (.int (181) 0), (.ref 298), .none, .none, .none, (.ref 299), (.int (565) 0), (.int (179) 0), (.str "/claim/cut.py" 566)]⟩), ⟨[]⟩⟩
def o200 : Obj := ⟨(.type "function"), none, (fu (top 25) "law" "law" 3 [] .none .none .none (.str "law_bitsback_k05_whole_products_told_back" 480) none (.ref 300) .none 0), ⟨[]⟩⟩
def ea (w : World) (os : OsState) : Option (SharedT × Thread) := bootK (stepQ (denQ tabQ) R.prog w) 12 R.prog w os
def T0 (P : Params) : BT := (.node (o0 P) (.node (o1 P) (.node (o3 P) (.node o7 (.node o7 (.node o24 (.node o46 .nil .nil) .nil) (.node o35 (.node o58 .nil .nil) .nil)) (.node o19 (.node o30 (.node o53 .nil .nil) .nil) (.node o19 (.node o7 .nil .nil) .nil))) (.node o7 (.node o15 (.node o28 (.node o49 .nil .nil) .nil) (.node o39 (.node o7 .nil .nil) .nil)) (.node o21 (.node o8 (.node (o55 P) .nil .nil) .nil) (.node o44 (.node o66 .nil .nil) .nil)))) (.node o5 (.node o9 (.node o14 (.node o26 (.node o47 .nil .nil) .nil) (.node o37 (.node o8 .nil .nil) .nil)) (.node o7 (.node o32 (.node o28 .nil .nil) .nil) (.node o7 (.node o64 .nil .nil) .nil))) (.node o12 (.node o17 (.node (o29 P) (.node (o51 P) .nil .nil) .nil) (.node o41 (.node o61 .nil .nil) .nil)) (.node o7 (.node o7 (.node o56 .nil .nil) .nil) (.node o7 .nil .nil))))) (.node o2 (.node o4 (.node o8 (.node o8 (.node o25 (.node o7 .nil .nil) .nil) (.node o36 (.node o7 .nil .nil) .nil)) (.node (o20 P) (.node o31 (.node o54 .nil .nil) .nil) (.node (o42 P) (.node (o63 P) .nil .nil) .nil))) (.node o11 (.node o16 (.node o19 (.node o50 .nil .nil) .nil) (.node o40 (.node o60 .nil .nil) .nil)) (.node o22 (.node o33 (.node o7 .nil .nil) .nil) (.node o45 .nil .nil)))) (.node o6 (.node o10 (.node o7 (.node o27 (.node o48 .nil .nil) .nil) (.node (o38 P) (.node o59 .nil .nil) .nil)) (.node o8 (.node o7 (.node o19 .nil .nil) .nil) (.node o43 (.node o65 .nil .nil) .nil))) (.node o13 (.node o18 (.node o7 (.node o52 .nil .nil) .nil) (.node o28 (.node o62 .nil .nil) .nil)) (.node (o23 P) (.node o34 (.node o57 .nil .nil) .nil) (.node o8 .nil .nil))))))
def S0 (w : World) (os : OsState) : SharedT := ⟨T0 w.params, 92, (boot_heap w.params).life, #[], ⟨0, 0, 0, 0⟩, 287, os⟩
def H0 (w : World) (os : OsState) : Thread := thr (ea w os) 6 ⟨17, 0, 20, 49⟩
def T1 (P : Params) : BT := (.node (o0 P) (.node (o1 P) (.node (o67 P) (.node o7 (.node o7 (.node o69 (.node o46 (.node o91 .nil .nil) .nil) (.node o7 .nil .nil)) (.node o35 (.node o58 .nil .nil) (.node o7 .nil .nil))) (.node o19 (.node o30 (.node o53 .nil .nil) (.node o75 .nil .nil)) (.node o19 (.node o7 .nil .nil) (.node o8 .nil .nil)))) (.node o7 (.node o15 (.node o28 (.node o49 (.node o94 .nil .nil) .nil) (.node o7 .nil .nil)) (.node o39 (.node o7 .nil .nil) (.node o84 .nil .nil))) (.node o21 (.node o8 (.node (o55 P) .nil .nil) (.node (o79 P) .nil .nil)) (.node o44 (.node o66 .nil .nil) (.node o89 .nil .nil))))) (.node o5 (.node o9 (.node o14 (.node o26 (.node o47 (.node o92 .nil .nil) .nil) (.node o72 .nil .nil)) (.node o37 (.node o8 .nil .nil) (.node o83 .nil .nil))) (.node o7 (.node o32 (.node o28 .nil .nil) (.node o77 .nil .nil)) (.node o7 (.node o64 .nil .nil) (.node o7 .nil .nil)))) (.node o12 (.node o17 (.node (o29 P) (.node (o51 P) .nil .nil) (.node o74 .nil .nil)) (.node o41 (.node o61 .nil .nil) (.node o86 .nil .nil))) (.node o7 (.node o7 (.node o56 .nil .nil) (.node o81 .nil .nil)) (.node o7 (.node o19 .nil .nil) (.node o7 .nil .nil)))))) (.node o2 (.node o4 (.node o8 (.node o8 (.node o25 (.node o7 (.node o7 .nil .nil) .nil) (.node o71 .nil .nil)) (.node o36 (.node o7 .nil .nil) (.node o8 .nil .nil))) (.node (o20 P) (.node o31 (.node o54 .nil .nil) (.node o76 .nil .nil)) (.node (o42 P) (.node (o63 P) .nil .nil) (.node o87 .nil .nil)))) (.node o68 (.node o16 (.node o19 (.node o50 .nil .nil) (.node o8 .nil .nil)) (.node o40 (.node o60 .nil .nil) (.node o85 .nil .nil))) (.node o22 (.node o33 (.node o7 .nil .nil) (.node o80 .nil .nil)) (.node o45 (.node o28 .nil .nil) (.node o90 .nil .nil))))) (.node o6 (.node o10 (.node o7 (.node o27 (.node o48 (.node o93 .nil .nil) .nil) (.node o73 .nil .nil)) (.node (o38 P) (.node o59 .nil .nil) (.node o7 .nil .nil))) (.node o8 (.node o7 (.node o19 .nil .nil) (.node o78 .nil .nil)) (.node o43 (.node o65 .nil .nil) (.node o88 .nil .nil)))) (.node o13 (.node o18 (.node o7 (.node o52 .nil .nil) (.node o7 .nil .nil)) (.node o28 (.node o62 .nil .nil) (.node o7 .nil .nil))) (.node (o23 P) (.node o34 (.node o57 .nil .nil) (.node o82 .nil .nil)) (.node o8 (.node (o70 P) .nil .nil) (.node o8 .nil .nil)))))))
def S1 (w : World) (os : OsState) : SharedT := ⟨T1 w.params, 132, (boot_heap w.params).life, #[], ⟨0, 0, 0, 0⟩, 348, os⟩
def H1 (w : World) (os : OsState) : Thread := thr (ea w os) 12 ⟨42, 0, 51, 16⟩
def T2 (P : Params) : BT := (.node (o0 P) (.node (o1 P) (.node (o95 P) (.node o7 (.node o7 (.node o69 (.node o46 (.node o91 (.node o8 .nil .nil) .nil) (.node o7 .nil .nil)) (.node o7 (.node o112 (.node o7 .nil .nil) .nil) (.node o152 .nil .nil))) (.node o35 (.node o58 (.node o7 (.node o180 .nil .nil) .nil) (.node o140 .nil .nil)) (.node o7 (.node o122 .nil .nil) (.node o162 .nil .nil)))) (.node o19 (.node o30 (.node o53 (.node o7 (.node o175 .nil .nil) .nil) (.node o8 .nil .nil)) (.node o75 (.node o117 .nil .nil) (.node o157 .nil .nil))) (.node o19 (.node o7 (.node o107 (.node o185 .nil .nil) .nil) (.node o7 .nil .nil)) (.node o8 (.node o127 .nil .nil) (.node o7 .nil .nil))))) (.node o7 (.node o15 (.node o28 (.node o49 (.node o94 (.node o173 .nil .nil) .nil) (.node o133 .nil .nil)) (.node o7 (.node o7 (.node o192 .nil .nil) .nil) (.node o8 .nil .nil))) (.node o39 (.node o7 (.node o7 (.node o182 .nil .nil) .nil) (.node o143 .nil .nil)) (.node o84 (.node o124 .nil .nil) (.node o7 .nil .nil)))) (.node o21 (.node o8 (.node (o55 P) (.node o101 (.node o178 .nil .nil) .nil) (.node o138 .nil .nil)) (.node (o79 P) (.node o8 .nil .nil) (.node o159 .nil .nil))) (.node o44 (.node o66 (.node o7 (.node o7 .nil .nil) .nil) (.node o148 .nil .nil)) (.node o89 (.node o7 .nil .nil) (.node o168 .nil .nil)))))) (.node o5 (.node o9 (.node o14 (.node o26 (.node o47 (.node o92 (.node o7 .nil .nil) .nil) (.node o132 .nil .nil)) (.node o72 (.node o114 (.node o190 .nil .nil) .nil) (.node o154 .nil .nil))) (.node o37 (.node o8 (.node o104 (.node o7 .nil .nil) .nil) (.node o141 .nil .nil)) (.node o83 (.node o7 .nil .nil) (.node o8 .nil .nil)))) (.node o7 (.node o32 (.node o28 (.node o99 (.node o176 .nil .nil) .nil) (.node o7 .nil .nil)) (.node o77 (.node o119 .nil .nil) (.node o7 .nil .nil))) (.node o7 (.node o64 (.node o109 (.node o8 .nil .nil) .nil) (.node o146 .nil .nil)) (.node o7 (.node o8 .nil .nil) (.node o167 .nil .nil))))) (.node o12 (.node o17 (.node (o29 P) (.node (o51 P) (.node o19 (.node o7 .nil .nil) .nil) (.node o135 .nil .nil)) (.node o74 (.node o116 .nil .nil) (.node o7 .nil .nil))) (.node o41 (.node o61 (.node o106 (.node o183 .nil .nil) .nil) (.node o8 .nil .nil)) (.node o86 (.node o125 .nil .nil) (.node o165 .nil .nil)))) (.node o7 (.node o7 (.node o56 (.node o8 (.node o8 .nil .nil) .nil) (.node o7 .nil .nil)) (.node o81 (.node o7 .nil .nil) (.node o160 .nil .nil))) (.node o7 (.node o19 (.node o111 (.node o188 .nil .nil) .nil) (.node o150 .nil .nil)) (.node o7 (.node o130 .nil .nil) (.node o170 .nil .nil))))))) (.node o2 (.node o4 (.node o8 (.node o8 (.node o25 (.node o7 (.node o7 (.node o171 .nil .nil) .nil) (.node o8 .nil .nil)) (.node o71 (.node o113 (.node o8 .nil .nil) .nil) (.node o153 .nil .nil))) (.node o36 (.node o7 (.node o103 (.node o181 .nil .nil) .nil) (.node o7 .nil .nil)) (.node o8 (.node o123 .nil .nil) (.node o7 .nil .nil)))) (.node (o20 P) (.node o31 (.node o54 (.node o98 (.node o7 .nil .nil) .nil) (.node o136 .nil .nil)) (.node o76 (.node o118 .nil .nil) (.node o158 .nil .nil))) (.node (o42 P) (.node (o63 P) (.node o108 (.node o7 .nil .nil) .nil) (.node o145 .nil .nil)) (.node o87 (.node o7 .nil .nil) (.node o8 .nil .nil))))) (.node o96 (.node o16 (.node o19 (.node o50 (.node o7 (.node o174 .nil .nil) .nil) (.node o134 .nil .nil)) (.node o8 (.node o8 .nil .nil) (.node o155 .nil .nil))) (.node o40 (.node o60 (.node o8 (.node o7 .nil .nil) .nil) (.node o7 .nil .nil)) (.node o85 (.node o7 .nil .nil) (.node o164 .nil .nil)))) (.node o22 (.node o33 (.node o7 (.node o7 (.node o7 .nil .nil) .nil) (.node o139 .nil .nil)) (.node o80 (.node o120 .nil .nil) (.node o7 .nil .nil))) (.node o45 (.node o28 (.node o8 (.node o187 .nil .nil) .nil) (.node (o149 P) .nil .nil)) (.node o90 (.node o129 .nil .nil) (.node o169 .nil .nil)))))) (.node o6 (.node o10 (.node o7 (.node o27 (.node o48 (.node o93 (.node o172 .nil .nil) .nil) (.node o7 .nil .nil)) (.node o73 (.node o115 (.node o191 .nil .nil) .nil) (.node o7 .nil .nil))) (.node (o38 P) (.node o59 (.node o105 (.node o8 .nil .nil) .nil) (.node o142 .nil .nil)) (.node o7 (.node o8 .nil .nil) (.node o163 .nil .nil)))) (.node o8 (.node o7 (.node o19 (.node o100 (.node o177 .nil .nil) .nil) (.node o137 .nil .nil)) (.node o78 (.node o7 .nil .nil) (.node o8 .nil .nil))) (.node o43 (.node o65 (.node o110 (.node o186 .nil .nil) .nil) (.node o147 .nil .nil)) (.node o88 (.node o128 .nil .nil) (.node o7 .nil .nil))))) (.node o13 (.node o18 (.node o7 (.node o52 (.node (o97 P) (.node o8 .nil .nil) .nil) (.node o7 .nil .nil)) (.node o7 (.node o7 .nil .nil) (.node o156 .nil .nil))) (.node o28 (.node o62 (.node o7 (.node o184 .nil .nil) .nil) (.node o144 .nil .nil)) (.node o7 (.node o126 .nil .nil) (.node o166 .nil .nil)))) (.node (o23 P) (.node o34 (.node o57 (.node o102 (.node o179 .nil .nil) .nil) (.node o8 .nil .nil)) (.node o82 (.node o121 .nil .nil) (.node o161 .nil .nil))) (.node o8 (.node (o70 P) (.node o7 (.node o189 .nil .nil) .nil) (.node o151 .nil .nil)) (.node o8 (.node o131 .nil .nil) (.node o7 .nil .nil))))))))
def S2 (w : World) (os : OsState) : SharedT := ⟨T2 w.params, 292, (boot_heap w.params).life, #[], ⟨0, 0, 0, 0⟩, 556, os⟩
def H2 (w : World) (os : OsState) : Thread := thr (ea w os) 24 ⟨175, 0, 176, 106⟩
def T3 (P : Params) : BT := (.node (o0 P) (.node (o1 P) (.node (o193 P) (.node o7 (.node o7 (.node o69 (.node o46 (.node o91 (.node o8 .nil .nil) .nil) (.node o7 .nil .nil)) (.node o7 (.node o112 (.node o7 .nil .nil) .nil) (.node o152 .nil .nil))) (.node o35 (.node o58 (.node o7 (.node o180 .nil .nil) .nil) (.node o140 .nil .nil)) (.node o7 (.node o122 .nil .nil) (.node o162 .nil .nil)))) (.node o19 (.node o30 (.node o53 (.node o7 (.node o175 .nil .nil) .nil) (.node o8 .nil .nil)) (.node o75 (.node o117 (.node o196 .nil .nil) .nil) (.node o157 .nil .nil))) (.node o19 (.node o7 (.node o107 (.node o185 .nil .nil) .nil) (.node o7 .nil .nil)) (.node o8 (.node o127 .nil .nil) (.node o7 .nil .nil))))) (.node o7 (.node o15 (.node o28 (.node o49 (.node o94 (.node o173 .nil .nil) .nil) (.node o133 .nil .nil)) (.node o7 (.node o7 (.node o192 .nil .nil) .nil) (.node o8 .nil .nil))) (.node o39 (.node o7 (.node o7 (.node o182 .nil .nil) .nil) (.node o143 .nil .nil)) (.node o84 (.node o124 .nil .nil) (.node o7 .nil .nil)))) (.node o21 (.node o8 (.node (o55 P) (.node o101 (.node o178 .nil .nil) .nil) (.node o138 .nil .nil)) (.node (o79 P) (.node o8 (.node o198 .nil .nil) .nil) (.node o159 .nil .nil))) (.node o44 (.node o66 (.node o7 (.node o7 .nil .nil) .nil) (.node o148 .nil .nil)) (.node o89 (.node o7 .nil .nil) (.node o168 .nil .nil)))))) (.node o5 (.node o9 (.node o14 (.node o26 (.node o47 (.node o92 (.node o7 .nil .nil) .nil) (.node o132 .nil .nil)) (.node o72 (.node o114 (.node o190 .nil .nil) .nil) (.node o154 .nil .nil))) (.node o37 (.node o8 (.node o104 (.node o7 .nil .nil) .nil) (.node o141 .nil .nil)) (.node o83 (.node o7 .nil .nil) (.node o8 .nil .nil)))) (.node o7 (.node o32 (.node o28 (.node o99 (.node o176 .nil .nil) .nil) (.node o7 .nil .nil)) (.node o77 (.node o119 (.node o7 .nil .nil) .nil) (.node o7 .nil .nil))) (.node o7 (.node o64 (.node o109 (.node o8 .nil .nil) .nil) (.node o146 .nil .nil)) (.node o7 (.node o8 .nil .nil) (.node o167 .nil .nil))))) (.node o12 (.node o17 (.node (o29 P) (.node (o51 P) (.node o19 (.node o7 .nil .nil) .nil) (.node o135 .nil .nil)) (.node o74 (.node o116 (.node o8 .nil .nil) .nil) (.node o7 .nil .nil))) (.node o41 (.node o61 (.node o106 (.node o183 .nil .nil) .nil) (.node o8 .nil .nil)) (.node o86 (.node o125 .nil .nil) (.node o165 .nil .nil)))) (.node o7 (.node o7 (.node o56 (.node o8 (.node o8 .nil .nil) .nil) (.node o7 .nil .nil)) (.node o81 (.node o7 (.node o200 .nil .nil) .nil) (.node o160 .nil .nil))) (.node o7 (.node o19 (.node o111 (.node o188 .nil .nil) .nil) (.node o150 .nil .nil)) (.node o7 (.node o130 .nil .nil) (.node o170 .nil .nil))))))) (.node o2 (.node o4 (.node o8 (.node o8 (.node o25 (.node o7 (.node o7 (.node o171 .nil .nil) .nil) (.node o8 .nil .nil)) (.node o71 (.node o113 (.node o8 .nil .nil) .nil) (.node o153 .nil .nil))) (.node o36 (.node o7 (.node o103 (.node o181 .nil .nil) .nil) (.node o7 .nil .nil)) (.node o8 (.node o123 .nil .nil) (.node o7 .nil .nil)))) (.node (o20 P) (.node o31 (.node o54 (.node o98 (.node o7 .nil .nil) .nil) (.node o136 .nil .nil)) (.node o76 (.node o118 (.node o197 .nil .nil) .nil) (.node o158 .nil .nil))) (.node (o42 P) (.node (o63 P) (.node o108 (.node o7 .nil .nil) .nil) (.node o145 .nil .nil)) (.node o87 (.node o7 .nil .nil) (.node o8 .nil .nil))))) (.node o194 (.node o16 (.node o19 (.node o50 (.node o7 (.node o174 .nil .nil) .nil) (.node o134 .nil .nil)) (.node o8 (.node o8 (.node o7 .nil .nil) .nil) (.node o155 .nil .nil))) (.node o40 (.node o60 (.node o8 (.node o7 .nil .nil) .nil) (.node o7 .nil .nil)) (.node o85 (.node o7 .nil .nil) (.node o164 .nil .nil)))) (.node o22 (.node o33 (.node o7 (.node o7 (.node o7 .nil .nil) .nil) (.node o139 .nil .nil)) (.node o80 (.node o120 (.node o199 .nil .nil) .nil) (.node o7 .nil .nil))) (.node o45 (.node o28 (.node o8 (.node o187 .nil .nil) .nil) (.node (o149 P) .nil .nil)) (.node o90 (.node o129 .nil .nil) (.node o169 .nil .nil)))))) (.node o6 (.node o10 (.node o7 (.node o27 (.node o48 (.node o93 (.node o172 .nil .nil) .nil) (.node o7 .nil .nil)) (.node o73 (.node o115 (.node o191 .nil .nil) .nil) (.node o7 .nil .nil))) (.node (o38 P) (.node o59 (.node o105 (.node o8 .nil .nil) .nil) (.node o142 .nil .nil)) (.node o7 (.node o8 .nil .nil) (.node o163 .nil .nil)))) (.node o8 (.node o7 (.node o19 (.node o100 (.node o177 .nil .nil) .nil) (.node o137 .nil .nil)) (.node o78 (.node o7 (.node o8 .nil .nil) .nil) (.node o8 .nil .nil))) (.node o43 (.node o65 (.node o110 (.node o186 .nil .nil) .nil) (.node o147 .nil .nil)) (.node o88 (.node o128 .nil .nil) (.node o7 .nil .nil))))) (.node o13 (.node o18 (.node o7 (.node o52 (.node (o97 P) (.node o8 .nil .nil) .nil) (.node o7 .nil .nil)) (.node o7 (.node o7 (.node o195 .nil .nil) .nil) (.node o156 .nil .nil))) (.node o28 (.node o62 (.node o7 (.node o184 .nil .nil) .nil) (.node o144 .nil .nil)) (.node o7 (.node o126 .nil .nil) (.node o166 .nil .nil)))) (.node (o23 P) (.node o34 (.node o57 (.node o102 (.node o179 .nil .nil) .nil) (.node o8 .nil .nil)) (.node o82 (.node o121 .nil .nil) (.node o161 .nil .nil))) (.node o8 (.node (o70 P) (.node o7 (.node o189 .nil .nil) .nil) (.node o151 .nil .nil)) (.node o8 (.node o131 .nil .nil) (.node o7 .nil .nil))))))))
def S3 (w : World) (os : OsState) : SharedT := ⟨T3 w.params, 302, (boot_heap w.params).life, #[], ⟨0, 0, 0, 0⟩, 568, os⟩
theorem p0 (w : World) (os : OsState) : bootK (stepQ (denQ tabQ) R.prog w) 969 R.prog w os = some (S0 w os, H0 w os) := by kernel_rfl
theorem p1 (w : World) (os : OsState) : goK (stepQ (denQ tabQ) R.prog w) bootN (bootAnn w) 361 (S0 w os) (H0 w os) = some (S1 w os, H1 w os) := by kernel_rfl
theorem p2 (w : World) (os : OsState) : goK (stepQ (denQ tabQ) R.prog w) bootN (bootAnn w) 984 (S1 w os) (H1 w os) = some (S2 w os, H2 w os) := by kernel_rfl
theorem p3 (w : World) (os : OsState) : goF (stepQ (denQ tabQ) R.prog w) bootN (bootAnn w) 54 (S2 w os) (H2 w os) = some (S3 w os) := by kernel_rfl
def names0 : List PySem.Str := ["_wall", "BitsError", "BadNumber", "BadBeat", "NoDivision", "TooLarge", "MOST", "times_of", "divided", "power_of", "Poly", "gcd_of"]
def names1 : List PySem.Str := ["factors_of", "_law_start", "_law_draw", "_law_times", "_law_divided", "_law_primes", "_law_row", "_law_product", "_law_counts", "_law_told"]
def names : List PySem.Str := names0 ++ names1
def K (P : Params) : Frag := (nat_lit 2, o2) :: (nat_lit 3, o193 P) :: (nat_lit 15, o7) :: (nat_lit 17, o14) :: (nat_lit 18, o7) :: (nat_lit 20, o16) :: (nat_lit 21, o17) :: (nat_lit 22, o18) :: (nat_lit 29, o7) :: (nat_lit 30, o23 P) :: (nat_lit 31, o69) :: (nat_lit 32, o25) :: (nat_lit 35, o28) :: (nat_lit 42, o7) :: (nat_lit 44, o33) :: (nat_lit 45, o7) :: (nat_lit 47, o35) :: (nat_lit 48, o36) :: (nat_lit 49, o37) :: (nat_lit 50, o38 P) :: (nat_lit 51, o39) :: (nat_lit 54, o28) :: (nat_lit 61, o7) :: (nat_lit 63, o46) :: (nat_lit 64, o7) :: (nat_lit 66, o48) :: (nat_lit 67, o49) :: (nat_lit 68, o50) :: (nat_lit 69, o51 P) :: (nat_lit 70, o52) :: (nat_lit 73, o28) :: (nat_lit 80, o7) :: (nat_lit 82, o59) :: (nat_lit 83, o7) :: (nat_lit 85, o61) :: (nat_lit 86, o62) :: (nat_lit 87, o7) :: (nat_lit 88, o63 P) :: (nat_lit 89, o64) :: (nat_lit 92, o28) :: (nat_lit 99, o7) :: (nat_lit 101, o74) :: (nat_lit 102, o7) :: (nat_lit 104, o76) :: (nat_lit 105, o77) :: (nat_lit 106, o78) :: (nat_lit 107, o79 P) :: (nat_lit 108, o80) :: (nat_lit 111, o7) :: (nat_lit 113, o83) :: (nat_lit 114, o7) :: (nat_lit 116, o85) :: (nat_lit 117, o86) :: (nat_lit 118, o7) :: (nat_lit 120, o87) :: (nat_lit 121, o7) :: (nat_lit 123, o89) :: (nat_lit 124, o90) :: (nat_lit 125, o7) :: (nat_lit 127, o91) :: (nat_lit 128, o7) :: (nat_lit 130, o93) :: (nat_lit 131, o94) :: (nat_lit 139, o101) :: (nat_lit 140, o7) :: (nat_lit 142, o102) :: (nat_lit 143, o7) :: (nat_lit 145, o104) :: (nat_lit 146, o105) :: (nat_lit 147, o7) :: (nat_lit 149, o106) :: (nat_lit 150, o7) :: (nat_lit 152, o108) :: (nat_lit 153, o109) :: (nat_lit 154, o110) :: (nat_lit 155, o7) :: (nat_lit 157, o111) :: (nat_lit 158, o7) :: (nat_lit 160, o113) :: (nat_lit 161, o114) :: (nat_lit 162, o115) :: (nat_lit 163, o7) :: (nat_lit 165, o116) :: (nat_lit 166, o7) :: (nat_lit 168, o118) :: (nat_lit 169, o119) :: (nat_lit 170, o7) :: (nat_lit 172, o120) :: (nat_lit 173, o7) :: (nat_lit 175, o122) :: (nat_lit 176, o123) :: (nat_lit 177, o7) :: (nat_lit 179, o124) :: (nat_lit 180, o7) :: (nat_lit 182, o126) :: (nat_lit 183, o127) :: (nat_lit 184, o7) :: (nat_lit 186, o128) :: (nat_lit 187, o7) :: (nat_lit 189, o130) :: (nat_lit 190, o131) :: (nat_lit 191, o7) :: (nat_lit 193, o132) :: (nat_lit 194, o7) :: (nat_lit 196, o134) :: (nat_lit 197, o135) :: (nat_lit 198, o7) :: (nat_lit 200, o136) :: (nat_lit 201, o7) :: (nat_lit 203, o138) :: (nat_lit 204, o139) :: (nat_lit 205, o7) :: (nat_lit 207, o140) :: (nat_lit 208, o7) :: (nat_lit 210, o142) :: (nat_lit 211, o143) :: (nat_lit 212, o7) :: (nat_lit 214, o144) :: (nat_lit 215, o7) :: (nat_lit 217, o146) :: (nat_lit 218, o147) :: (nat_lit 219, o148) :: (nat_lit 220, o149 P) :: (nat_lit 221, o150) :: (nat_lit 222, o151) :: (nat_lit 223, o152) :: (nat_lit 226, o7) :: (nat_lit 228, o155) :: (nat_lit 229, o7) :: (nat_lit 231, o157) :: (nat_lit 232, o158) :: (nat_lit 233, o7) :: (nat_lit 235, o159) :: (nat_lit 236, o7) :: (nat_lit 238, o161) :: (nat_lit 239, o162) :: (nat_lit 240, o7) :: (nat_lit 242, o163) :: (nat_lit 243, o7) :: (nat_lit 245, o165) :: (nat_lit 246, o166) :: (nat_lit 247, o7) :: (nat_lit 249, o167) :: (nat_lit 250, o7) :: (nat_lit 252, o169) :: (nat_lit 253, o170) :: (nat_lit 254, o7) :: (nat_lit 256, o171) :: (nat_lit 257, o7) :: (nat_lit 259, o173) :: (nat_lit 260, o174) :: (nat_lit 261, o7) :: (nat_lit 263, o175) :: (nat_lit 264, o7) :: (nat_lit 266, o177) :: (nat_lit 267, o178) :: (nat_lit 268, o7) :: (nat_lit 271, o180) :: (nat_lit 272, o181) :: (nat_lit 273, o7) :: (nat_lit 275, o182) :: (nat_lit 276, o7) :: (nat_lit 278, o184) :: (nat_lit 279, o185) :: (nat_lit 280, o7) :: (nat_lit 282, o186) :: (nat_lit 283, o7) :: (nat_lit 285, o188) :: (nat_lit 286, o189) :: (nat_lit 287, o7) :: (nat_lit 290, o191) :: (nat_lit 291, o192) :: (nat_lit 292, o7) :: (nat_lit 295, o196) :: (nat_lit 296, o197) :: (nat_lit 297, o7) :: (nat_lit 300, o199) :: (nat_lit 301, o200) :: []
def as : List Addr := [2, 3, 15, 17, 18, 20, 21, 22, 29, 30, 31, 32, 35, 42, 44, 45, 47, 48, 49, 50, 51, 54, 61, 63, 64, 66, 67, 68, 69, 70, 73, 80, 82, 83, 85, 86, 87, 88, 89, 92, 99, 101, 102, 104, 105, 106, 107, 108, 111, 113, 114, 116, 117, 118, 120, 121, 123, 124, 125, 127, 128, 130, 131, 139, 140, 142, 143, 145, 146, 147, 149, 150, 152, 153, 154, 155, 157, 158, 160, 161, 162, 163, 165, 166, 168, 169, 170, 172, 173, 175, 176, 177, 179, 180, 182, 183, 184, 186, 187, 189, 190, 191, 193, 194, 196, 197, 198, 200, 201, 203, 204, 205, 207, 208, 210, 211, 212, 214, 215, 217, 218, 219, 220, 221, 222, 223, 226, 228, 229, 231, 232, 233, 235, 236, 238, 239, 240, 242, 243, 245, 246, 247, 249, 250, 252, 253, 254, 256, 257, 259, 260, 261, 263, 264, 266, 267, 268, 271, 272, 273, 275, 276, 278, 279, 280, 282, 283, 285, 286, 287, 290, 291, 292, 295, 296, 297, 300, 301]
theorem as_eq (P : Params) : as = (K P).map (·.1) := by kernel_rfl
def ob (s : SharedT) : List (Option Obj) := as.map (getT s)
theorem ob_eq (s : SharedT) : ob s = (kHook K as as_eq).obs s.abs := List.map_congr_left fun a _ => getT_eq s a
theorem boot_n (w : World) : (putAll (boot_heap w.params).objs.toList .nil 0).map (·.2) = some bootN := by kernel_rfl
theorem endK {w : World} {os : OsState} {m k : Nat} {s : SharedT} {t : Thread} (h : bootK (stepQ (denQ tabQ) R.prog w) m R.prog w os = some (s, t)) : endF (stepQ (denQ tabQ) R.prog w) (m + k) R.prog w os = goF (stepQ (denQ tabQ) R.prog w) bootN (bootAnn w) k s t := by
  have hn := boot_n w
  unfold endF
  unfold bootK at h
  cases e : putAll (boot_heap w.params).objs.toList .nil 0 with
  | none => rw [e] at hn; cases hn
  | some r =>
    obtain ⟨t0, n⟩ := r
    rw [e] at hn h
    obtain rfl : n = bootN := Option.some.inj hn
    dsimp only at h ⊢
    rw [frNat_eq] at h ⊢
    exact goK_goF k h
theorem fin (w : World) (os : OsState) : endF (stepQ (denQ tabQ) R.prog w) 2368 R.prog w os = some (S3 w os) := by
  rw [show 2368 = (969 + (361 + (984 + 54))) from rfl, endK (p0 w os)]
  rw [goK_goF (984 + 54) (p1 w os)]
  rw [goK_goF 54 (p2 w os)]
  exact p3 w os
theorem looks (w : World) (os : OsState) : looksF R.prog (boot_heap w.params) (S3 w os).abs = true := by kernel_rfl
theorem seen (w : World) (os : OsState) : seenQ (view R.prog [25]) names (importedModules R.prog.main.body) (fun s => xlAt (view R.prog [25]) [] s && recOk R.toRowW.records s) (S3 w os).abs = openGood (view R.prog [25]) names := by kernel_rfl
theorem obs (w : World) (os : OsState) : ob (S3 w os) = (K w.params).map fun p => some p.2 := by kernel_rfl
theorem run (w : World) : RunEq R (view R.prog [25]) (kHook K as as_eq) ob 2368 names w := by
  intro os
  rw [fin w os]
  show some (_, _, _) = _
  rw [looks, seen, obs]
  rfl
end HDC
end
open PySem PySem.W PyProof.Rows
theorem head_bitsback_k05_whole_products_told_back (h : WalkO (view (OpenLaw.row PySem.Challenge.rw_bitsback_k05_whole_products_told_back).prog [25]) HDC.names (XL (view (OpenLaw.row PySem.Challenge.rw_bitsback_k05_whole_products_told_back).prog [25]) []) (kHook HDC.K HDC.as HDC.as_eq).says (OpenLaw.row PySem.Challenge.rw_bitsback_k05_whole_products_told_back).toRowW (HandSHeadRun.topDef (OpenLaw.row PySem.Challenge.rw_bitsback_k05_whole_products_told_back).prog 25) [] fun f vs => PySem.call f vs) : PySem.Challenge.rw_bitsback_k05_whole_products_told_back.Holds := by
  w_on; o_law
  refine HandSHeadRun.head_any (r := OpenLaw.row PySem.Challenge.rw_bitsback_k05_whole_products_told_back) (q := view (OpenLaw.row PySem.Challenge.rw_bitsback_k05_whole_products_told_back).prog [25]) (H := kHook HDC.K HDC.as HDC.as_eq) (ob := HDC.ob) (M := 2368) (loose := HDC.names) (kwd := []) HDC.ob_eq (by kernel_rfl) (fun s => by kernel_rfl) HDC.run (by rfl) (by rfl) (by rfl) (by rfl) (by first | assumption | decide +kernel) (by decide +kernel) ⟨rfl, rfl, rfl, rfl, rfl, by decide +kernel⟩ ?hw h
  case hw => w_witness2
end
set_option maxRecDepth 100000
set_option maxHeartbeats 1000000
namespace DL
open PySem L2
inductive PV where
  | non | bl (b : Bool) | int (i : Int) | str (s : Str)
  | tup (xs : List PV) | lst (xs : List PV) | scr (xs : List PV)
  | ins (c : Nat) (vs : List PV)
  | box (k : Nat)
  | raw (v : V)
structure PX where
  c : Nat
  vs : List PV
inductive Ob where
  | lst (xs : List PV)
  | ins (c : Nat) (vs : List PV)
structure Ck where
  n : Nat
  st : Nat → Option Ob
  nx : Nat
  v : Nat
instance : LE Ck := ⟨fun a b => a.n ≤ b.n ∧ a.nx ≤ b.nx ∧ a.v ≤ b.v⟩
theorem Ck.le_refl (c : Ck) : c ≤ c := ⟨Nat.le_refl _, Nat.le_refl _, Nat.le_refl _⟩
theorem Ck.le_trans {a b c : Ck} (h : a ≤ b) (h' : b ≤ c) : a ≤ c := ⟨Nat.le_trans h.1 h'.1, Nat.le_trans h.2.1 h'.2.1, Nat.le_trans h.2.2 h'.2.2⟩
def Ck.tick (c : Ck) (k : Nat) : Ck := ⟨c.n + k, c.st, c.nx, c.v⟩
def Ck.put (c : Ck) (k : Nat) (ob : Ob) : Ck := ⟨c.n, fun j => if j = k then some ob else c.st j, c.nx, c.v + 1⟩
def Ck.new (c : Ck) (ob : Ob) : Ck := ⟨c.n, fun j => if j = c.nx + 10 then some ob else c.st j, c.nx + 1, c.v + 1⟩
structure Wd where
  F : Hp
  B : Addr → Option Nat
  c : Ck
  inj : ∀ a a' k, B a = some k → B a' = some k → 10 ≤ k → a = a'
  bd : ∀ a k, B a = some k → k < c.nx + 10
abbrev Pd := Ck → Prop
structure Par where
  cm : Nat → Addr
  fn : Nat → List Str
  BI : Nat → (Addr → Option Nat) → Nat → HO → Prop
  bmono : ∀ k B B' c c' o, (∀ a j, B a = some j → B' a = some j) → c ≤ c' → BI k B c o → BI k B' c' o
structure Wle (W W' : Wd) : Prop where
  f : Same W.F W'.F
  b : ∀ a k, W.B a = some k → W'.B a = some k
  c : W.c ≤ W'.c
theorem Wle.refl (W : Wd) : Wle W W := ⟨Same.refl _, fun _ _ h => h, Ck.le_refl _⟩
theorem Wle.trans {W W1 W2 : Wd} (a : Wle W W1) (b : Wle W1 W2) : Wle W W2 := ⟨a.f.trans b.f, fun x k h => b.b x k (a.b x k h), Ck.le_trans a.c b.c⟩
theorem sqL_same {K : PySem.W.Frag} {H H' : Hp} {a : Addr} {xs : List V} (e : Same H H') (h : SqL K H a xs) : SqL K H' a xs := e.seq h
theorem sqT_same {K : PySem.W.Frag} {H H' : Hp} {a : Addr} {xs : List V} (e : Same H H') (h : SqT K H a xs) : SqT K H' a xs := by
  rcases h with (h | ⟨o, h⟩) | h
  · exact .inl (.inl (e _ _ h))
  · exact .inl (.inr ⟨o, e _ _ h⟩)
  · exact .inr h
mutual
def Rep (P : Par) (K : PySem.W.Frag) (W : Wd) : PV → V → Prop
  | .non, v => v = .non
  | .bl b, v => v = .bl b
  | .int i, v => v = .int i
  | .str s, v => v = .str s
  | .tup xs, v => ∃ a ys, v = .ref a ∧ SqT K W.F a ys ∧ RepL P K W xs ys
  | .lst xs, v => ∃ a ys, v = .ref a ∧ W.F a = some (.lst ys) ∧ RepL P K W xs ys
  | .scr xs, v => ∃ a ys, v = .ref a ∧ SqL K W.F a ys ∧ RepL P K W xs ys
  | .ins c vs, v => ∃ a dx gs, v = .ref a ∧ W.F a = some (.ins (P.cm c) dx gs) ∧ gs.map (·.1) = P.fn c ∧ RepL P K W vs (gs.map (·.2))
  | .box k, v => ∃ a, v = .ref a ∧ W.B a = some k
  | .raw u, v => v = u
def RepL (P : Par) (K : PySem.W.Frag) (W : Wd) : List PV → List V → Prop
  | [], ys => ys = []
  | x :: xs, ys => ∃ y zs, ys = y :: zs ∧ Rep P K W x y ∧ RepL P K W xs zs
end
section
variable {P : Par} {K : PySem.W.Frag} {W W' : Wd}
mutual
theorem Rep.mono (h : Wle W W') : ∀ (p : PV) (v : V), Rep P K W p v → Rep P K W' p v
  | .non, _, r => by simpa only [Rep] using r
  | .bl _, _, r => by simpa only [Rep] using r
  | .int _, _, r => by simpa only [Rep] using r
  | .str _, _, r => by simpa only [Rep] using r
  | .raw _, _, r => by simpa only [Rep] using r
  | .box _, _, r => by
    simp only [Rep] at r ⊢
    obtain ⟨a, e, b⟩ := r
    exact ⟨a, e, h.b _ _ b⟩
  | .tup xs, _, r => by
    simp only [Rep] at r ⊢
    obtain ⟨a, ys, e, s, l⟩ := r
    exact ⟨a, ys, e, sqT_same h.f s, RepL.mono h xs ys l⟩
  | .lst xs, _, r => by
    simp only [Rep] at r ⊢
    obtain ⟨a, ys, e, s, l⟩ := r
    exact ⟨a, ys, e, h.f _ _ s, RepL.mono h xs ys l⟩
  | .scr xs, _, r => by
    simp only [Rep] at r ⊢
    obtain ⟨a, ys, e, s, l⟩ := r
    exact ⟨a, ys, e, sqL_same h.f s, RepL.mono h xs ys l⟩
  | .ins c vs, _, r => by
    simp only [Rep] at r ⊢
    obtain ⟨a, dx, gs, e, s, n, l⟩ := r
    exact ⟨a, dx, gs, e, h.f _ _ s, n, RepL.mono h vs _ l⟩
theorem RepL.mono (h : Wle W W') : ∀ (ps : List PV) (vs : List V), RepL P K W ps vs → RepL P K W' ps vs
  | [], _, r => by simpa only [RepL] using r
  | x :: xs, _, r => by
    simp only [RepL] at r ⊢
    obtain ⟨y, zs, e, a, b⟩ := r
    exact ⟨y, zs, e, Rep.mono h x y a, RepL.mono h xs zs b⟩
end
theorem RepL.length : ∀ {ps : List PV} {vs : List V}, RepL P K W ps vs → ps.length = vs.length
  | [], _, r => by simp only [RepL] at r; subst r; rfl
  | x :: xs, _, r => by
    simp only [RepL] at r
    obtain ⟨y, zs, e, a, b⟩ := r
    subst e
    simp only [List.length_cons, RepL.length b]
theorem RepL.get : ∀ {ps : List PV} {vs : List V} {i : Nat} {p : PV}, RepL P K W ps vs → ps[i]? = some p → ∃ v, vs[i]? = some v ∧ Rep P K W p v
  | [], _, _, _, _, e => by simp at e
  | x :: xs, _, i, p, r, e => by
    simp only [RepL] at r
    obtain ⟨y, zs, e1, a, b⟩ := r
    subst e1
    cases i with
    | zero => simp at e; subst e; exact ⟨y, rfl, a⟩
    | succ i => simpa using RepL.get b (by simpa using e)
theorem RepL.get' : ∀ {ps : List PV} {vs : List V} {i : Nat} {v : V}, RepL P K W ps vs → vs[i]? = some v → ∃ p, ps[i]? = some p ∧ Rep P K W p v
  | [], _, _, _, r, e => by simp only [RepL] at r; subst r; simp at e
  | x :: xs, _, i, v, r, e => by
    simp only [RepL] at r
    obtain ⟨y, zs, e1, a, b⟩ := r
    subst e1
    cases i with
    | zero => simp at e; subst e; exact ⟨x, rfl, a⟩
    | succ i => simpa using RepL.get' b (by simpa using e)
theorem RepL.nil : RepL P K W [] [] := by simp only [RepL]
theorem RepL.cons {p : PV} {ps : List PV} {v : V} {vs : List V} (a : Rep P K W p v) (b : RepL P K W ps vs) : RepL P K W (p :: ps) (v :: vs) := by
  simp only [RepL]
  exact ⟨v, vs, rfl, a, b⟩
theorem RepL.append : ∀ {ps qs : List PV} {vs us : List V}, RepL P K W ps vs → RepL P K W qs us → RepL P K W (ps ++ qs) (vs ++ us)
  | [], _, _, _, r, s => by simp only [RepL] at r; subst r; simpa using s
  | x :: xs, qs, _, us, r, s => by
    simp only [RepL] at r
    obtain ⟨y, zs, e1, a, b⟩ := r
    subst e1
    exact RepL.cons a (RepL.append b s)
theorem RepL.take : ∀ {ps : List PV} {vs : List V} (n : Nat), RepL P K W ps vs → RepL P K W (ps.take n) (vs.take n)
  | _, _, 0, _ => by simp only [List.take_zero]; exact RepL.nil
  | [], _, n + 1, r => by simp only [RepL] at r; subst r; exact RepL.nil
  | x :: xs, _, n + 1, r => by
    simp only [RepL] at r
    obtain ⟨y, zs, e1, a, b⟩ := r
    subst e1
    exact RepL.cons a (RepL.take n b)
theorem RepL.drop : ∀ {ps : List PV} {vs : List V} (n : Nat), RepL P K W ps vs → RepL P K W (ps.drop n) (vs.drop n)
  | _, _, 0, r => by simpa using r
  | [], _, n + 1, r => by simp only [RepL] at r; subst r; exact RepL.nil
  | x :: xs, _, n + 1, r => by
    simp only [RepL] at r
    obtain ⟨y, zs, e1, a, b⟩ := r
    subst e1
    exact RepL.drop n b
theorem RepL.set : ∀ {ps : List PV} {vs : List V} {p : PV} {v : V} (n : Nat), RepL P K W ps vs → Rep P K W p v → RepL P K W (ps.set n p) (vs.set n v)
  | [], _, _, _, _, r, _ => by simp only [RepL] at r; subst r; exact RepL.nil
  | x :: xs, _, p, v, n, r, q => by
    simp only [RepL] at r
    obtain ⟨y, zs, e1, a, b⟩ := r
    subst e1
    cases n with
    | zero => exact RepL.cons q b
    | succ n => exact RepL.cons a (RepL.set n b q)
end
def RepOb (P : Par) (K : PySem.W.Frag) (W : Wd) : Ob → HO → Prop
  | .lst xs, o => ∃ ys, o = .lst ys ∧ RepL P K W xs ys
  | .ins c vs, o => ∃ dx gs, o = .ins (P.cm c) dx gs ∧ gs.map (·.1) = (P.fn c).take vs.length ∧ vs.length ≤ (P.fn c).length ∧ RepL P K W vs (gs.map (·.2))
def BoxAt (P : Par) (K : PySem.W.Frag) (W : Wd) (k : Nat) (o : HO) : Prop := (k < 10 ∧ P.BI k W.B W.c.n o) ∨ (10 ≤ k ∧ ∃ ob, W.c.st k = some ob ∧ RepOb P K W ob o)
theorem RepOb.mono {P : Par} {K : PySem.W.Frag} {W W' : Wd} (h : Wle W W') {ob : Ob} {o : HO} (r : RepOb P K W ob o) : RepOb P K W' ob o := by
  cases ob with
  | lst xs => obtain ⟨ys, e, l⟩ := r; exact ⟨ys, e, RepL.mono h _ _ l⟩
  | ins c vs => obtain ⟨dx, gs, e, n, l0, l⟩ := r; exact ⟨dx, gs, e, n, l0, RepL.mono h _ _ l⟩
theorem BoxAt.mono {P : Par} {K : PySem.W.Frag} {W W' : Wd} (h : Wle W W') (hc : W'.c = W.c) {k : Nat} {o : HO} (r : BoxAt P K W k o) : BoxAt P K W' k o := by
  rcases r with ⟨a, b⟩ | ⟨a, ob, e, b⟩
  · exact .inl ⟨a, P.bmono _ _ _ _ _ _ h.b (by rw [hc]; exact Nat.le_refl _) b⟩
  · exact .inr ⟨a, ob, by rw [hc]; exact e, b.mono h⟩
def BoxOk (P : Par) (K : PySem.W.Frag) (W : Wd) (H : Hp) : Prop := ∀ a k, W.B a = some k → W.F a = none ∧ ∃ o, H a = some o ∧ BoxAt P K W k o
structure Fr0 (P : Par) (K : PySem.W.Frag) (H0 : Hp) (W0 : Wd) (W : Wd) (H : Hp) : Prop where
  le : Wle W0 W
  sub : Same W.F H
  keep : ∀ a o, H0 a = some o → W0.B a = none → H a = some o
  freshF : ∀ a o, W.F a = some o → W0.F a = some o ∨ H0 a = none
  freshB : ∀ a k, W.B a = some k → W0.B a = some k ∨ H0 a = none
  box : BoxOk P K W H
  bx : W.c.v = W0.c.v → W.c.st = W0.c.st ∧ ∀ a k, W.B a = some k → 10 ≤ k → W0.B a = some k ∧ H a = H0 a
section
variable {P : Par} {K : PySem.W.Frag} {H0 H1 H2 H : Hp} {W0 W1 W2 W : Wd}
theorem Fr0.refl (s : Same W.F H) (b : BoxOk P K W H) : Fr0 P K H W W H := ⟨Wle.refl _, s, fun _ _ h _ => h, fun _ _ h => .inl h, fun _ _ h => .inl h, b, fun _ => ⟨rfl, fun _ _ h _ => ⟨h, rfl⟩⟩⟩
theorem Fr0.trans (a : Fr0 P K H0 W0 W1 H1) (b : Fr0 P K H1 W1 W2 H2) : Fr0 P K H0 W0 W2 H2 := by
  have back : ∀ x, H1 x = none → H0 x = none := fun x h => by
    cases e : H0 x with
    | none => rfl
    | some o =>
      cases e2 : W0.B x with
      | none => rw [a.keep x o e e2] at h; cases h
      | some k =>
        obtain ⟨_, o', h', _⟩ := a.box x k (a.le.b x k e2)
        rw [h'] at h; cases h
  refine ⟨a.le.trans b.le, b.sub, fun x o h n => b.keep x o (a.keep x o h n) ?_, fun x o h => ?_, fun x k h => ?_, b.box, fun e => ?_⟩
  rotate_left 3
  · have l1 := a.le.c.2.2
    have l2 := b.le.c.2.2
    obtain ⟨e1, g1⟩ := a.bx (by omega)
    obtain ⟨e2, g2⟩ := b.bx (by omega)
    refine ⟨e2.trans e1, fun x k h hk => ?_⟩
    obtain ⟨h1, h2⟩ := g2 x k h hk
    obtain ⟨h3, h4⟩ := g1 x k h1 hk
    exact ⟨h3, h2.trans h4⟩
  · cases e : W1.B x with
    | none => rfl
    | some k =>
      rcases a.freshB x k e with z | z
      · rw [n] at z; cases z
      · rw [h] at z; cases z
  · rcases b.freshF x o h with z | z
    · exact a.freshF x o z
    · exact .inr (back x z)
  · rcases b.freshB x k h with z | z
    · exact a.freshB x k z
    · exact .inr (back x z)
def Wd.add (W : Wd) (a : Addr) (o : HO) : Wd := ⟨upd W.F a o, W.B, W.c, W.inj, W.bd⟩
theorem Wle.add {a : Addr} {o : HO} (nF : W.F a = none) : Wle W (W.add a o) := ⟨fun x u h => by
  show upd W.F a o x = some u
  rw [upd_ne (ne_of_none h nF)]; exact h, fun _ _ h => h, Ck.le_refl _⟩
theorem Fr0.new {a : Addr} {o : HO} (s : Same W.F H) (b : BoxOk P K W H) (n : H a = none) : Fr0 P K H W (W.add a o) (upd H a o) := by
  have nF : W.F a = none := by
    cases e : W.F a with
    | none => rfl
    | some u => rw [s a u e] at n; cases n
  refine ⟨⟨fun x u h => ?_, fun _ _ h => h, Ck.le_refl _⟩, fun x u h => ?_, fun x u h _ => ?_, fun x u h => ?_, fun _ _ h => .inl h, fun x k h => ?_, fun _ => ⟨rfl, fun x k h _ => ⟨h, upd_ne fun e => by obtain ⟨_, o', h2, _⟩ := b x k h; rw [e, n] at h2; cases h2⟩⟩⟩
  · show upd W.F a o x = some u
    rw [upd_ne (ne_of_none h nF)]; exact h
  · show upd H a o x = some u
    have h' : upd W.F a o x = some u := h
    by_cases e : x = a
    · subst e; rw [upd_same] at h' ⊢; exact h'
    · rw [upd_ne e] at h' ⊢; exact s x u h'
  · rw [upd_ne (ne_of_none h n)]; exact h
  · have h' : upd W.F a o x = some u := h
    by_cases e : x = a
    · subst e; exact .inr n
    · rw [upd_ne e] at h'; exact .inl h'
  · obtain ⟨h1, o', h2, h3⟩ := b x k h
    have ne : x ≠ a := ne_of_none h2 n
    exact ⟨by show upd W.F a o x = none; rw [upd_ne ne]; exact h1, o', by rw [upd_ne ne]; exact h2, h3.mono (Wle.add nF) rfl⟩
def Ck.isL (c : Ck) (k : Nat) (xs : List PV) : Prop := (10 ≤ k ∧ k < c.nx + 10) ∧ c.st k = some (.lst xs)
def Ck.isI (c : Ck) (k cl : Nat) (vs : List PV) : Prop := (10 ≤ k ∧ k < c.nx + 10) ∧ c.st k = some (.ins cl vs)
theorem box_ob {k : Nat} {v : V} {ob : Ob} (b : BoxOk P K W H) (r : Rep P K W (.box k) v) (hk : 10 ≤ k) (h : W.c.st k = some ob) : ∃ a o, v = .ref a ∧ W.B a = some k ∧ H a = some o ∧ RepOb P K W ob o := by
  simp only [Rep] at r
  obtain ⟨a, rfl, hb⟩ := r
  obtain ⟨_, o, ho, h3⟩ := b a k hb
  rcases h3 with ⟨h4, _⟩ | ⟨_, ob', e, h3⟩
  · omega
  · rw [h] at e; cases e
    exact ⟨a, o, rfl, hb, ho, h3⟩
theorem box_lst {k : Nat} {v : V} {xs : List PV} (b : BoxOk P K W H) (r : Rep P K W (.box k) v) (h : W.c.isL k xs) : ∃ a ys, v = .ref a ∧ W.B a = some k ∧ H a = some (.lst ys) ∧ RepL P K W xs ys := by
  obtain ⟨a, o, e, hb, ho, ys, rfl, l⟩ := box_ob b r h.1.1 h.2
  exact ⟨a, ys, e, hb, ho, l⟩
theorem box_ins {k cl : Nat} {v : V} {vs : List PV} (b : BoxOk P K W H) (r : Rep P K W (.box k) v) (h : W.c.isI k cl vs) : ∃ a dx gs, v = .ref a ∧ W.B a = some k ∧ H a = some (.ins (P.cm cl) dx gs) ∧ gs.map (·.1) = (P.fn cl).take vs.length ∧ vs.length ≤ (P.fn cl).length ∧ RepL P K W vs (gs.map (·.2)) := by
  obtain ⟨a, o, e, hb, ho, dx, gs, rfl, n, l0, l⟩ := box_ob b r h.1.1 h.2
  exact ⟨a, dx, gs, e, hb, ho, n, l0, l⟩
def Wd.put (W : Wd) (k : Nat) (ob : Ob) : Wd := ⟨W.F, W.B, W.c.put k ob, W.inj, W.bd⟩
theorem Wle.put {k : Nat} {ob : Ob} : Wle W (W.put k ob) := ⟨fun _ _ h => h, fun _ _ h => h, ⟨Nat.le_refl _, Nat.le_refl _, Nat.le_succ _⟩⟩
theorem Fr0.put {a : Addr} {k : Nat} {ob : Ob} {o : HO} (s : Same W.F H) (b : BoxOk P K W H) (hk : 10 ≤ k) (hb : W.B a = some k) (r : RepOb P K W ob o) : Fr0 P K H W (W.put k ob) (upd H a o) := by
  have nF : W.F a = none := (b a k hb).1
  refine ⟨Wle.put, fun x u h => ?_, fun x u h n => ?_, fun x u h => .inl h, fun x j h => .inl h, fun x j h => ?_, fun e => ?_⟩
  · have h' : W.F x = some u := h
    rw [upd_ne (ne_of_none h' nF)]; exact s x u h
  · have ne : x ≠ a := fun e => by rw [e, hb] at n; cases n
    rw [upd_ne ne]; exact h
  · have h' : W.B x = some j := h
    obtain ⟨h1, o', h2, h3⟩ := b x j h'
    by_cases c : x = a
    · subst c
      rw [hb] at h'; cases h'
      exact ⟨h1, o, upd_same, .inr ⟨hk, ob, by show (if k = k then some ob else _) = _; rw [if_pos rfl], r.mono Wle.put⟩⟩
    · refine ⟨h1, o', by rw [upd_ne c]; exact h2, ?_⟩
      rcases h3 with h3 | ⟨g, ob', e, h3⟩
      · exact .inl h3
      · have nj : j ≠ k := fun z => c (W.inj x a j h' (z ▸ hb) g)
        exact .inr ⟨g, ob', by show (if j = k then some ob else W.c.st j) = _; rw [if_neg nj]; exact e, h3.mono Wle.put⟩
  · exfalso
    have e : W.c.v + 1 = W.c.v := e
    omega
def Wd.newB (W : Wd) (a : Addr) (ob : Ob) (n : W.B a = none) : Wd := ⟨W.F, fun x => if x = a then some (W.c.nx + 10) else W.B x, W.c.new ob, fun x y k h h' hk => by
    have nb : ∀ z j, (if z = a then some (W.c.nx + 10) else W.B z) = some j → (z = a ∧ j = W.c.nx + 10) ∨ (W.B z = some j ∧ j < W.c.nx + 10) := fun z j h => by
      by_cases c : z = a
      · rw [if_pos c] at h; cases h; exact .inl ⟨c, rfl⟩
      · rw [if_neg c] at h; exact .inr ⟨h, W.bd z j h⟩
    rcases nb x k h with ⟨e, e1⟩ | ⟨e, e1⟩ <;> rcases nb y k h' with ⟨e', e2⟩ | ⟨e', e2⟩
    · rw [e, e']
    · omega
    · omega
    · exact W.inj x y k e e' hk, fun x k h => by
    by_cases c : x = a
    · rw [if_pos c] at h; cases h; show W.c.nx + 10 < W.c.nx + 1 + 10; omega
    · rw [if_neg c] at h; have := W.bd x k h; show k < W.c.nx + 1 + 10; omega⟩
theorem Wle.newB {a : Addr} {ob : Ob} {n : W.B a = none} : Wle W (W.newB a ob n) := ⟨fun _ _ h => h, fun x k h => by
  show (if x = a then some (W.c.nx + 10) else W.B x) = some k
  rw [if_neg (fun e => by rw [e, n] at h; cases h)]; exact h, ⟨Nat.le_refl _, Nat.le_succ _, Nat.le_succ _⟩⟩
theorem newB_same {a : Addr} {ob : Ob} {n : W.B a = none} : (W.newB a ob n).B a = some (W.c.nx + 10) := by show (if a = a then some (W.c.nx + 10) else _) = _; rw [if_pos rfl]
theorem Fr0.newB {a : Addr} {ob : Ob} {H' : Hp} {o : HO} (s : Same W.F H) (b : BoxOk P K W H) (n : H a = none) (nB : W.B a = none) (ha : H' a = some o) (hs : Same H H') (r : RepOb P K W ob o) : Fr0 P K H W (W.newB a ob nB) H' := by
  have nF : W.F a = none := by
    cases e : W.F a with
    | none => rfl
    | some u => rw [s a u e] at n; cases n
  refine ⟨Wle.newB, fun x u h => hs x u (s x u h), fun x u h _ => hs x u h, fun x u h => .inl h, fun x j h => ?_, fun x j h => ?_, fun e => ?_⟩
  · have h' : (if x = a then some (W.c.nx + 10) else W.B x) = some j := h
    by_cases c : x = a
    · subst c; exact .inr n
    · rw [if_neg c] at h'; exact .inl h'
  · have h' : (if x = a then some (W.c.nx + 10) else W.B x) = some j := h
    by_cases c : x = a
    · subst c
      rw [if_pos rfl] at h'; cases h'
      exact ⟨nF, o, ha, .inr ⟨by omega, ob, by show (if W.c.nx + 10 = W.c.nx + 10 then some ob else _) = _; rw [if_pos rfl], r.mono Wle.newB⟩⟩
    · rw [if_neg c] at h'
      obtain ⟨h1, o', h2, h3⟩ := b x j h'
      refine ⟨h1, o', hs x o' h2, ?_⟩
      rcases h3 with ⟨g, h3⟩ | ⟨g, ob', e, h3⟩
      · exact .inl ⟨g, P.bmono _ _ _ _ _ _ (fun x k h => Wle.newB.b x k h) (Nat.le_refl _) h3⟩
      · have nj : j ≠ W.c.nx + 10 := fun z => by have := W.bd x j h'; omega
        exact .inr ⟨g, ob', by show (if j = W.c.nx + 10 then some ob else W.c.st j) = _; rw [if_neg nj]; exact e, h3.mono Wle.newB⟩
  · exfalso
    have e : W.c.v + 1 = W.c.v := e
    omega
theorem none_of_same {H H' : Hp} {a : Addr} (s : Same H H') (n : H' a = none) : H a = none := by
  cases e : H a with
  | none => rfl
  | some u => rw [s a u e] at n; cases n
end
inductive Slot where
  | no
  | fz (p : PV)
  | own (xs : List PV)
  | slf (a : Addr) (c : Nat) (vs : List PV)
  | exc (a : Addr) (cls : Value) (d : Option Addr) (x : PX)
def Slot.isOwn : Slot → Bool
  | .own _ => true
  | .slf _ _ _ => true
  | _ => false
abbrev Rho := List Slot
def OwnA (H0 : Hp) (W : Wd) (a : Addr) : Prop := H0 a = none ∧ W.F a = none ∧ W.B a = none
def RepX (P : Par) (K : PySem.W.Frag) (W : Wd) (H : Hp) (x : PX) (cls : Value) (d : Option Addr) : Prop :=
  cls = .ref (P.cm x.c) ∧ x.vs.length = (P.fn x.c).length ∧ ((x.vs = [] ∧ d = none) ∨ ∃ dd gs, d = some dd ∧ H dd = some (.xd gs) ∧ W.B dd = none ∧ ∀ (i : Nat) (f : Str) (p : PV), (P.fn x.c)[i]? = some f → x.vs[i]? = some p → ∃ v, gs.lookup f = some v ∧ Rep P K W p v)
theorem RepX.mono {P : Par} {K : PySem.W.Frag} {W W' : Wd} {H : Hp} {x : PX} {cls : Value} {d : Option Addr} (r : RepX P K W H x cls d) (le : Wle W W') (eb : W'.B = W.B) : RepX P K W' H x cls d := by
  obtain ⟨e, l, h⟩ := r
  refine ⟨e, l, h.imp id fun ⟨dd, gs, e1, e2, e3, h⟩ => ⟨dd, gs, e1, e2, by rw [eb]; exact e3, fun i f p g1 g2 => let ⟨v, g3, g4⟩ := h i f p g1 g2; ⟨v, g3, Rep.mono le _ _ g4⟩⟩⟩
theorem RepX.upd {P : Par} {K : PySem.W.Frag} {W : Wd} {H : Hp} {x : PX} {cls : Value} {d : Option Addr} {a : Addr} {o : HO} (r : RepX P K W H x cls d) (ne : ∀ dd gs, H dd = some (.xd gs) → dd ≠ a) : RepX P K W (L2.upd H a o) x cls d := by
  obtain ⟨e, l, h⟩ := r
  refine ⟨e, l, h.imp id fun ⟨dd, gs, e1, e2, e3, h⟩ => ⟨dd, gs, e1, by rw [upd_ne (ne dd gs e2)]; exact e2, e3, h⟩⟩
theorem RepX.step {P : Par} {K : PySem.W.Frag} {W W' : Wd} {H H' : Hp} {x : PX} {cls : Value} {d : Option Addr} (r : RepX P K W H x cls d) (f : Fr0 P K H W W' H') : RepX P K W' H' x cls d := by
  obtain ⟨e, l, h⟩ := r
  refine ⟨e, l, h.imp id fun ⟨dd, gs, e1, e2, e3, h⟩ => ⟨dd, gs, e1, f.keep dd _ e2 e3, ?_, fun i f' p g1 g2 => let ⟨v, g3, g4⟩ := h i f' p g1 g2; ⟨v, g3, Rep.mono f.le _ _ g4⟩⟩⟩
  cases eb : W'.B dd with
  | none => rfl
  | some u =>
    rcases f.freshB dd u eb with z | z
    · rw [e3] at z; cases z
    · rw [e2] at z; cases z
def RepS (P : Par) (K : PySem.W.Frag) (H0 : Hp) (W : Wd) (H : Hp) (s : Slot) (o : Option (Option V)) : Prop := match s with
  | .no => True
  | .fz p => ∃ v, o = some (some v) ∧ Rep P K W p v
  | .own xs => ∃ a ys, o = some (some (.ref a)) ∧ H a = some (.lst ys) ∧ RepL P K W xs ys ∧ OwnA H0 W a
  | .slf a c vs => ∃ dx gs, o = some (some (.ref a)) ∧ H a = some (.ins (P.cm c) dx gs) ∧ gs.map (·.1) = (P.fn c).take vs.length ∧ vs.length ≤ (P.fn c).length ∧ RepL P K W vs (gs.map (·.2)) ∧ OwnA H0 W a
  | .exc a cls d x => o = some (some (.ref a)) ∧ RepX P K W H x cls d
structure SR (P : Par) (K : PySem.W.Frag) (H0 : Hp) (W0 : Wd) (W : Wd) (σ : L2.St) (H : Hp) (ρ : Rho) : Prop where
  fr : Fr0 P K H0 W0 W H
  len : σ.length = ρ.length
  slots : ∀ (i : Nat) (s : Slot), ρ[i]? = some s → RepS P K H0 W H s σ[i]?
  dist : ∀ (i j : Nat) (s t : Slot) (a : Addr), ρ[i]? = some s → ρ[j]? = some t → s.isOwn = true → t.isOwn = true → σ[i]? = some (some (.ref a)) → σ[j]? = some (some (.ref a)) → i = j
section
variable {P : Par} {K : PySem.W.Frag} {H0 H H' : Hp} {W0 W W' : Wd} {σ : L2.St} {ρ : Rho}
theorem OwnA.step {a : Addr} {o : HO} (x : OwnA H0 W a) (h : H a = some o) (f : Fr0 P K H W W' H') : OwnA H0 W' a ∧ H' a = some o := by
  obtain ⟨x1, x2, x3⟩ := x
  refine ⟨⟨x1, ?_, ?_⟩, f.keep a o h x3⟩
  · cases e : W'.F a with
    | none => rfl
    | some u =>
      rcases f.freshF a u e with z | z
      · rw [x2] at z; cases z
      · rw [h] at z; cases z
  · cases e : W'.B a with
    | none => rfl
    | some u =>
      rcases f.freshB a u e with z | z
      · rw [x3] at z; cases z
      · rw [h] at z; cases z
theorem RepS.step {s : Slot} {o : Option (Option V)} (r : RepS P K H0 W H s o) (f : Fr0 P K H W W' H') : RepS P K H0 W' H' s o := by
  cases s with
  | no => trivial
  | fz p =>
    obtain ⟨v, e, r⟩ := r
    exact ⟨v, e, Rep.mono f.le p v r⟩
  | own xs =>
    obtain ⟨a, ys, e, h, r, x⟩ := r
    obtain ⟨x', h'⟩ := x.step h f
    exact ⟨a, ys, e, h', RepL.mono f.le _ _ r, x'⟩
  | slf a c vs =>
    obtain ⟨dx, gs, e, h, n, l, r, x⟩ := r
    obtain ⟨x', h'⟩ := x.step h f
    exact ⟨dx, gs, e, h', n, l, RepL.mono f.le _ _ r, x'⟩
  | exc a cls d x =>
    obtain ⟨e, r⟩ := r
    exact ⟨e, r.step f⟩
theorem SR.step (s : SR P K H0 W0 W σ H ρ) (f : Fr0 P K H W W' H') : SR P K H0 W0 W' σ H' ρ :=
  ⟨s.fr.trans f, s.len, fun i t h => (s.slots i t h).step f, s.dist⟩
theorem SR.same (s : SR P K H0 W0 W σ H ρ) : Same W.F H := s.fr.sub
theorem SR.box (s : SR P K H0 W0 W σ H ρ) : BoxOk P K W H := s.fr.box
end
abbrev DT := Rho → (PV → Pd) → Pd
abbrev DB := Rho → (Bool → Pd) → Pd
abbrev DA := Rho → (List PV → Pd) → Pd
def MonoT {α : Type} (t : Rho → (α → Pd) → Pd) : Prop := ∀ ρ (Q Q' : α → Pd) n, (∀ p n, Q p n → Q' p n) → t ρ Q n → t ρ Q' n
section
variable (P : Par) (K : PySem.W.Frag) (H0 : Hp) (W0 : Wd)
def liftE (t : DT) : TE := fun σ H Q => ∃ W ρ, SR P K H0 W0 W σ H ρ ∧ t ρ (fun p n => ∀ v W' H', Fr0 P K H W W' H' → W'.c = n → Rep P K W' p v → Q v H') W.c
def liftB (t : DB) : TT := fun σ H Q => ∃ W ρ, SR P K H0 W0 W σ H ρ ∧ t ρ (fun b n => ∀ W' H', Fr0 P K H W W' H' → W'.c = n → Q b H') W.c
def liftA (t : DA) : TA := fun σ H Q => ∃ W ρ, SR P K H0 W0 W σ H ρ ∧ t ρ (fun ps n => ∀ vs W' H', Fr0 P K H W W' H' → W'.c = n → RepL P K W' ps vs → Q vs H') W.c
end
structure Cz where
  P : Par
  H0 : Hp
  W0 : Wd
structure DE (Z : Cz) (X : Cx) (e : Expr) (t : DT) : Prop where
  mono : MonoT t
  run : PE X e (liftE Z.P X.K Z.H0 Z.W0 t)
structure DTs (Z : Cz) (X : Cx) (e : Expr) (t : DB) : Prop where
  mono : MonoT t
  run : PT X e (liftB Z.P X.K Z.H0 Z.W0 t)
structure DW (Z : Cz) (X : Cx) (e : Expr) (t : DB) : Prop where
  mono : MonoT t
  run : PW X e (liftB Z.P X.K Z.H0 Z.W0 t)
structure DAs (Z : Cz) (X : Cx) (es : List Expr) (t : DA) : Prop where
  mono : MonoT t
  run : PA X es (liftA Z.P X.K Z.H0 Z.W0 t)
theorem PE.weak {X : Cx} {e : Expr} {t t' : TE} (h : PE X e t) (w : ∀ σ H Q, t' σ H Q → t σ H Q) : PE X e t' := ⟨fun pins s σ H Q I q => h.run pins s σ H Q I (w σ H Q q)⟩
theorem PT.weak {X : Cx} {e : Expr} {t t' : TT} (h : PT X e t) (w : ∀ σ H Q, t' σ H Q → t σ H Q) : PT X e t' := ⟨fun pins s σ H Q I q => h.run pins s σ H Q I (w σ H Q q)⟩
theorem PW.weak {X : Cx} {e : Expr} {t t' : TT} (h : PW X e t) (w : ∀ σ H Q, t' σ H Q → t σ H Q) : PW X e t' := ⟨fun wh pins s σ H Q I q => h.run wh pins s σ H Q I (w σ H Q q)⟩
theorem PA.weak {X : Cx} {es : List Expr} {t t' : TA} (h : PA X es t) (w : ∀ σ H Q, t' σ H Q → t σ H Q) : PA X es t' := ⟨fun pos pins s σ H Q I q => h.run pos pins s σ H Q I (w σ H Q q)⟩
theorem PS.weak {X : Cx} {st : Stmt} {t t' : TS} (h : PS X st t) (w : ∀ D σ H, t' D σ H → t D σ H) : PS X st t' := ⟨fun pins s σ H D I q => h.run pins s σ H D I (w D σ H q)⟩
theorem PSs.weak {X : Cx} {st : List Stmt} {t t' : TS} (h : PSs X st t) (w : ∀ D σ H, t' D σ H → t D σ H) : PSs X st t' := ⟨fun pins s σ H D I q => h.run pins s σ H D I (w D σ H q)⟩
section
variable {Z : Cz} {X : Cx} {e a b : Expr} {pos : Pos} {ta tb te : DT}
def dVar (i : Nat) : DT := fun ρ Q n => match ρ[i]? with
  | some (.fz p) => Q p n
  | _ => False
def dC (p : PV) : DT := fun _ Q => Q p
theorem liftE_var {i : Nat} {σ : L2.St} {H : Hp} {Q : VK} (h : liftE Z.P X.K Z.H0 Z.W0 (dVar i) σ H Q) : tVar i σ H Q := by
  obtain ⟨W, ρ, S, q⟩ := h
  unfold dVar at q
  split at q
  · rename_i p e
    obtain ⟨v, e2, r⟩ := S.slots i _ e
    exact ⟨v, e2, q v W H (Fr0.refl S.same S.box) rfl r⟩
  · exact q.elim
theorem dv (i : Nat) {x : Str} {pos : Pos} (hN : X.N[i]? = some x := by rfl) (hv : Vis X.env.scope x := by first | exact Or.inl rfl | exact Or.inr (Or.inl rfl) | exact Or.inr (Or.inr rfl)) (hd : (x == ("__debug__" : Str)) = false := by decide)
    (hcd : (x == ("__classdict__" : Str)) = false := by decide) : DE Z X (.Name x pos) (dVar i) := by
  refine ⟨fun ρ Q Q' n hq h => ?_, PE.weak (pe_var hN hv hd hcd) fun σ H Q h => liftE_var h⟩
  unfold dVar at h ⊢
  split at h
  · rename_i p e
    exact hq _ _ h
  · exact h.elim
theorem liftE_c {p : PV} {v : V} (hr : ∀ W, Rep Z.P X.K W p v) {σ : L2.St} {H : Hp} {Q : VK} (h : liftE Z.P X.K Z.H0 Z.W0 (dC p) σ H Q) : tC v σ H Q := by
  obtain ⟨W, ρ, S, q⟩ := h
  exact q v W H (Fr0.refl S.same S.box) rfl (hr W)
theorem de_int {i : Int} {j} : DE Z X (.Constant (.int i) j pos) (dC (.int i)) := ⟨fun _ _ _ _ hq h => hq _ _ h, PE.weak pe_int fun _ _ _ h => liftE_c (fun W => by simp only [Rep]) h⟩
theorem de_bl {i : Bool} {j} : DE Z X (.Constant (.bool i) j pos) (dC (.bl i)) := ⟨fun _ _ _ _ hq h => hq _ _ h, PE.weak pe_bl fun _ _ _ h => liftE_c (fun W => by simp only [Rep]) h⟩
abbrev G1 := PV → (PV → Pd) → Pd
abbrev G2 := PV → PV → (PV → Pd) → Pd
abbrev GN := List PV → (PV → Pd) → Pd
def MonoG1 (g : G1) : Prop := ∀ x (Q Q' : PV → Pd) n, (∀ p n, Q p n → Q' p n) → g x Q n → g x Q' n
def MonoG2 (g : G2) : Prop := ∀ x y (Q Q' : PV → Pd) n, (∀ p n, Q p n → Q' p n) → g x y Q n → g x y Q' n
def MonoGN (g : GN) : Prop := ∀ xs (Q Q' : PV → Pd) n, (∀ p n, Q p n → Q' p n) → g xs Q n → g xs Q' n
def Tell (P : Par) (K : PySem.W.Frag) (W : Wd) (H : Hp) (Q : VK) (p : PV) : Pd := fun n => ∀ v W' H', Fr0 P K H W W' H' → W'.c = n → Rep P K W' p v → Q v H'
theorem Tell.now {P : Par} {K : PySem.W.Frag} {W : Wd} {H : Hp} {Q : VK} {p : PV} {v : V} (t : Tell P K W H Q p W.c) (s : Same W.F H) (b : BoxOk P K W H) (r : Rep P K W p v) : Q v H := t v W H (Fr0.refl s b) rfl r
def r1Of (P : Par) (K : PySem.W.Frag) (g : G1) : V → Hp → VK → Prop := fun v H Q => ∃ W x, Same W.F H ∧ BoxOk P K W H ∧ Rep P K W x v ∧ g x (Tell P K W H Q) W.c
def r2Of (P : Par) (K : PySem.W.Frag) (g : G2) : R2 := fun v w H Q => ∃ W x y, Same W.F H ∧ BoxOk P K W H ∧ Rep P K W x v ∧ Rep P K W y w ∧ g x y (Tell P K W H Q) W.c
def rNOf (P : Par) (K : PySem.W.Frag) (g : GN) : List V → Hp → VK → Prop := fun vs H Q => ∃ W xs, Same W.F H ∧ BoxOk P K W H ∧ RepL P K W xs vs ∧ g xs (Tell P K W H Q) W.c
structure DOp (Z : Cz) (X : Cx) (f : Value → Value → Sem Value) (g : G2) : Prop where
  mono : MonoG2 g
  run : OpR X f (r2Of Z.P X.K g)
structure DUn (Z : Cz) (X : Cx) (f : Value → Sem Value) (g : G1) : Prop where
  mono : MonoG1 g
  run : UnR X f (r1Of Z.P X.K g)
structure DCall (Z : Cz) (X : Cx) (f : Value) (g : GN) : Prop where
  mono : MonoGN g
  run : CallR X f (rNOf Z.P X.K g)
def dBin (g : G2) (ta tb : DT) : DT := fun ρ Q => ta ρ fun x => tb ρ fun y => g x y Q
def dUn (g : G1) (ta : DT) : DT := fun ρ Q => ta ρ fun x => g x Q
def dApp (g : GN) (ta : DA) : DT := fun ρ Q => ta ρ fun xs => g xs Q
theorem dBin_mono {g : G2} (hg : MonoG2 g) (ha : MonoT ta) (hb : MonoT tb) : MonoT (dBin g ta tb) := fun ρ Q Q' n hq h => ha ρ _ _ n (fun x n h => hb ρ _ _ n (fun y n h => hg x y _ _ n hq h) h) h
theorem dUn_mono {g : G1} (hg : MonoG1 g) (ha : MonoT ta) : MonoT (dUn g ta) := fun ρ Q Q' n hq h => ha ρ _ _ n (fun x n h => hg x _ _ n hq h) h
theorem dApp_mono {g : GN} {ta : DA} (hg : MonoGN g) (ha : MonoT ta) : MonoT (dApp g ta) := fun ρ Q Q' n hq h => ha ρ _ _ n (fun x n h => hg x _ _ n hq h) h
theorem lift_bin {g : G2} (hg : MonoG2 g) (ha : MonoT ta) (hb : MonoT tb) {σ : L2.St} {H : Hp} {Q : VK} (h : liftE Z.P X.K Z.H0 Z.W0 (dBin g ta tb) σ H Q) :
    tOp (r2Of Z.P X.K g) (liftE Z.P X.K Z.H0 Z.W0 ta) (liftE Z.P X.K Z.H0 Z.W0 tb) σ H Q := by
  obtain ⟨W, ρ, S, q⟩ := h
  refine ⟨W, ρ, S, ha ρ _ _ _ (fun x n q v W1 H1 f1 c1 r1 => ?_) q⟩
  refine ⟨W1, ρ, S.step f1, hb ρ _ _ _ (fun y n q w W2 H2 f2 c2 r2 => ?_) (c1 ▸ q)⟩
  exact ⟨W2, x, y, f2.sub, f2.box, Rep.mono f2.le _ _ r1, r2, hg x y _ _ _ (fun p n t v W3 H3 f3 c3 r3 => t v W3 H3 ((f1.trans f2).trans f3) c3 r3) (c2 ▸ q)⟩
theorem lift_un {g : G1} (hg : MonoG1 g) (ha : MonoT ta) {σ : L2.St} {H : Hp} {Q : VK} (h : liftE Z.P X.K Z.H0 Z.W0 (dUn g ta) σ H Q) :
    tUn (r1Of Z.P X.K g) (liftE Z.P X.K Z.H0 Z.W0 ta) σ H Q := by
  obtain ⟨W, ρ, S, q⟩ := h
  refine ⟨W, ρ, S, ha ρ _ _ _ (fun x n q v W1 H1 f1 c1 r1 => ?_) q⟩
  exact ⟨W1, x, f1.sub, f1.box, r1, hg x _ _ _ (fun p n t v W3 H3 f3 c3 r3 => t v W3 H3 (f1.trans f3) c3 r3) (c1 ▸ q)⟩
theorem lift_app {g : GN} {ta : DA} (hg : MonoGN g) (ha : MonoT ta) {σ : L2.St} {H : Hp} {Q : VK} (h : liftE Z.P X.K Z.H0 Z.W0 (dApp g ta) σ H Q) :
    tCB (rNOf Z.P X.K g) (liftA Z.P X.K Z.H0 Z.W0 ta) σ H Q := by
  obtain ⟨W, ρ, S, q⟩ := h
  refine ⟨W, ρ, S, ha ρ _ _ _ (fun xs n q vs W1 H1 f1 c1 r1 => ?_) q⟩
  exact ⟨W1, xs, f1.sub, f1.box, r1, hg xs _ _ _ (fun p n t v W3 H3 f3 c3 r3 => t v W3 H3 (f1.trans f3) c3 r3) (c1 ▸ q)⟩
theorem de_bin {op : Operator} {g : G2} (o : DOp Z X (binaryOp op) g) (ha : DE Z X a ta) (hb : DE Z X b tb) : DE Z X (.BinOp a op b pos) (dBin g ta tb) :=
  ⟨dBin_mono o.mono ha.mono hb.mono, PE.weak (pe_op o.run ha.run hb.run) fun _ _ _ h => lift_bin o.mono ha.mono hb.mono h⟩
theorem de_cmp {op : CmpOp} {g : G2} (o : DOp Z X (compareOp op) g) (ha : DE Z X a ta) (hb : DE Z X b tb) (hm : behindInMarks op b = false := by rfl) : DE Z X (.Compare a [op] [b] pos) (dBin g ta tb) :=
  ⟨dBin_mono o.mono ha.mono hb.mono, PE.weak (pe_cmpR o.run ha.run hb.run hm) fun _ _ _ h => lift_bin o.mono ha.mono hb.mono h⟩
theorem de_un {op : UnaryOp} {g : G1} (o : DUn Z X (unaryOp op) g) (ha : DE Z X a ta) : DE Z X (.UnaryOp op a pos) (dUn g ta) :=
  ⟨dUn_mono o.mono ha.mono, PE.weak (pe_un o.run ha.run) fun _ _ _ h => lift_un o.mono ha.mono h⟩
end
end DL
set_option maxRecDepth 100000
set_option maxHeartbeats 1000000
namespace DL
open PySem L2
section
variable {Z : Cz} {X : Cx} {P : Par} {K : PySem.W.Frag} {W : Wd} {H : Hp}
theorem rep_int {i : Int} {v : V} : Rep P K W (.int i) v ↔ v = .int i := by simp only [Rep]
theorem rep_bl {i : Bool} {v : V} : Rep P K W (.bl i) v ↔ v = .bl i := by simp only [Rep]
theorem rep_str {i : Str} {v : V} : Rep P K W (.str i) v ↔ v = .str i := by simp only [Rep]
theorem rep_non {v : V} : Rep P K W .non v ↔ v = .non := by simp only [Rep]
theorem rep_lst {xs : List PV} {v : V} : Rep P K W (.lst xs) v ↔ ∃ a ys, v = .ref a ∧ W.F a = some (.lst ys) ∧ RepL P K W xs ys := by simp only [Rep]
theorem rep_scr {xs : List PV} {v : V} : Rep P K W (.scr xs) v ↔ ∃ a ys, v = .ref a ∧ SqL K W.F a ys ∧ RepL P K W xs ys := by simp only [Rep]
theorem rep_tup {xs : List PV} {v : V} : Rep P K W (.tup xs) v ↔ ∃ a ys, v = .ref a ∧ SqT K W.F a ys ∧ RepL P K W xs ys := by simp only [Rep]
theorem rep_ins {c : Nat} {vs : List PV} {v : V} : Rep P K W (.ins c vs) v ↔ ∃ a dx gs, v = .ref a ∧ W.F a = some (.ins (P.cm c) dx gs) ∧ gs.map (·.1) = P.fn c ∧ RepL P K W vs (gs.map (·.2)) := by simp only [Rep]
theorem rep_box {k : Nat} {v : V} : Rep P K W (.box k) v ↔ ∃ a, v = .ref a ∧ W.B a = some k := by simp only [Rep]
theorem Tell.fresh {Q : VK} {pv : PV} {o : HO} (t : Tell P K W H Q pv W.c) (s : Same W.F H) (b : BoxOk P K W H) (r : ∀ p, H p = none → Rep P K (W.add p o) pv (.ref p)) : ∀ p, H p = none → Q (.ref p) (upd H p o) :=
  fun p n => t _ _ _ (Fr0.new s b n) rfl (r p n)
theorem add_same {p : Addr} {o : HO} : (W.add p o).F p = some o := upd_same
theorem rep_newL {p : Addr} {xs : List PV} {ys : List V} (n : H p = none) (s : Same W.F H) (r : RepL P K W xs ys) : Rep P K (W.add p (.lst ys)) (.lst xs) (.ref p) := by
  rw [rep_lst]
  exact ⟨p, ys, rfl, add_same, RepL.mono (Wle.add (none_of_same s n)) _ _ r⟩
theorem rep_newT {p : Addr} {xs : List PV} {ys : List V} (n : H p = none) (s : Same W.F H) (r : RepL P K W xs ys) : Rep P K (W.add p (.tup ys)) (.tup xs) (.ref p) := by
  rw [rep_tup]
  exact ⟨p, ys, rfl, SqT.of add_same, RepL.mono (Wle.add (none_of_same s n)) _ _ r⟩
def gII (C : Int → Int → Prop) (f : Int → Int → PV) : G2 := fun x y Q n => match x, y with
  | .int i, .int j => C i j ∧ Q (f i j) n
  | _, _ => False
theorem gII_mono {C : Int → Int → Prop} {f : Int → Int → PV} : MonoG2 (gII C f) := fun x y Q Q' n hq h => by
  cases x <;> cases y <;> first | exact h.elim | exact ⟨h.1, hq _ _ h.2⟩
theorem dop_ii {f : Value → Value → Sem Value} {C : Int → Int → Prop} {g : Int → Int → PV} {g' : Int → Int → V} (h : OpR X f (rI C g')) (hr : ∀ i j W, Rep Z.P X.K W (g i j) (g' i j)) : DOp Z X f (gII C g) := by
  refine ⟨gII_mono, fun pins s σ H x y u v Q I rx ry q => ?_⟩
  obtain ⟨W, p, r, s1, b1, r1, r2, q⟩ := q
  cases p <;> cases r <;> first | exact q.elim | skip
  rename_i i j
  rw [rep_int] at r1 r2
  subst r1; subst r2
  exact h pins s σ H _ _ u v Q I rx ry ⟨i, j, rfl, rfl, q.1, Tell.now q.2 s1 b1 (hr i j W)⟩
theorem dop_ii0 {f : Value → Value → Sem Value} {g : Int → Int → PV} {g' : Int → Int → V} (h : OpR X f (rI0 g')) (hr : ∀ i j W, Rep Z.P X.K W (g i j) (g' i j)) : DOp Z X f (gII (fun _ _ => True) g) :=
  dop_ii (C := fun _ _ => True) (fun pins s σ H x y u v Q I rx ry q => h pins s σ H x y u v Q I rx ry (let ⟨i, j, e1, e2, _, q⟩ := q; ⟨i, j, e1, e2, q⟩)) hr
abbrev TT2 : Int → Int → Prop := fun _ _ => True
theorem dop_sub : DOp Z X (binaryOp .Sub) (gII TT2 fun i j => .int (i - j)) := dop_ii0 op_sub fun _ _ _ => rep_int.2 rfl
theorem dop_shl : DOp Z X (binaryOp .LShift) (gII CShl fun i j => .int (i * 2 ^ j.toNat)) := dop_ii op_shlW fun _ _ _ => rep_int.2 rfl
theorem dop_shr : DOp Z X (binaryOp .RShift) (gII (fun _ j => 0 ≤ j) fun i j => .int (i / 2 ^ j.toNat)) := dop_ii op_shr fun _ _ _ => rep_int.2 rfl
theorem dop_and : DOp Z X (binaryOp .BitAnd) (gII TT2 fun i j => .int (Builtin.bitAnd i j)) := dop_ii0 op_and fun _ _ _ => rep_int.2 rfl
theorem dop_or : DOp Z X (binaryOp .BitOr) (gII TT2 fun i j => .int (Builtin.bitOr i j)) := dop_ii0 op_or fun _ _ _ => rep_int.2 rfl
theorem dop_xor : DOp Z X (binaryOp .BitXor) (gII TT2 fun i j => .int (Builtin.bitXor i j)) := dop_ii0 op_xor fun _ _ _ => rep_int.2 rfl
theorem diop_add : DOp Z X (inplaceOp .Add) (gII TT2 fun i j => .int (i + j)) := dop_ii0 iop_add fun _ _ _ => rep_int.2 rfl
theorem dop_lt : DOp Z X (compareOp .Lt) (gII TT2 fun i j => .bl (decide (i < j))) := dop_ii0 op_lt fun _ _ _ => rep_bl.2 rfl
theorem dop_le : DOp Z X (compareOp .LtE) (gII TT2 fun i j => .bl (decide (i ≤ j))) := dop_ii0 op_le fun _ _ _ => rep_bl.2 rfl
theorem dop_gt : DOp Z X (compareOp .Gt) (gII TT2 fun i j => .bl (decide (j < i))) := dop_ii0 op_gt fun _ _ _ => rep_bl.2 rfl
theorem dop_ge : DOp Z X (compareOp .GtE) (gII TT2 fun i j => .bl (decide (j ≤ i))) := dop_ii0 op_ge fun _ _ _ => rep_bl.2 rfl
def gI1 (f : Int → PV) : G1 := fun x Q n => match x with
  | .int i => Q (f i) n
  | _ => False
theorem dun_i {f : Value → Sem Value} {g : Int → PV} {g' : Int → V} (h : UnR X f (rU g')) (hr : ∀ i W, Rep Z.P X.K W (g i) (g' i)) : DUn Z X f (gI1 g) := by
  refine ⟨fun x Q Q' n hq h => by cases x <;> first | exact h.elim | exact hq _ _ h, fun pins s σ H x u Q I rx q => ?_⟩
  obtain ⟨W, p, s1, b1, r1, q⟩ := q
  cases p <;> first | exact q.elim | skip
  rename_i i
  rw [rep_int] at r1
  subst r1
  exact h pins s σ H _ u Q I rx ⟨i, rfl, Tell.now q s1 b1 (hr i W)⟩
theorem dun_neg : DUn Z X (unaryOp .USub) (gI1 fun i => .int (-i)) := dun_i un_neg fun _ _ => rep_int.2 rfl
def gAdd : G2 := fun x y Q n => match x, y with
  | .int i, .int j => Q (.int (i + j)) n
  | .str a, .str b => a.length + b.length ≤ sizeLine ∧ Q (.str (a ++ b)) n
  | .lst a, .lst b => a.length + b.length ≤ sizeLine ∧ Q (.lst (a ++ b)) n
  | .tup a, .tup b => a.length + b.length ≤ sizeLine ∧ Q (.tup (a ++ b)) n
  | _, _ => False
theorem dop_add : DOp Z X (binaryOp .Add) gAdd := by
  refine ⟨fun x y Q Q' n hq h => ?_, fun pins s σ H x y u v Q I rx ry q => ?_⟩
  · cases x <;> cases y <;> first | exact h.elim | exact hq _ _ h | exact ⟨h.1, hq _ _ h.2⟩
  · obtain ⟨W, p, r, s1, b1, r1, r2, q⟩ := q
    cases p <;> cases r <;> first | exact q.elim | skip
    · rename_i i j
      rw [rep_int] at r1 r2
      subst r1; subst r2
      exact op_add pins s σ H _ _ u v Q I rx ry ⟨i, j, rfl, rfl, Tell.now q s1 b1 (rep_int.2 rfl)⟩
    · rename_i i j
      rw [rep_str] at r1 r2
      subst r1; subst r2
      exact op_add_str pins s σ H _ _ u v Q I rx ry ⟨i, j, rfl, rfl, q.1, Tell.now q.2 s1 b1 (rep_str.2 rfl)⟩
    · rename_i xs ys
      rw [rep_tup] at r1 r2
      obtain ⟨a, vs, rfl, h1, l1⟩ := r1
      obtain ⟨b, us, rfl, h2, l2⟩ := r2
      refine op_catA pins s σ H _ _ u v Q I rx ry ⟨a, b, vs, us, rfl, rfl, sqT_same s1 h1, sqT_same s1 h2, by rw [← l1.length, ← l2.length]; exact q.1, ?_⟩
      refine ⟨fun e1 => ?_, fun e1 e2 => ?_, fun e1 e2 => ?_⟩
      · have e : xs ++ ys = ys := by
          have := l1.length
          rw [e1] at this
          rw [List.eq_nil_of_length_eq_zero this, List.nil_append]
        have t : Tell Z.P X.K W H Q (.tup (xs ++ ys)) W.c := q.2
        rw [e] at t
        exact Tell.now t s1 b1 (rep_tup.2 ⟨b, us, rfl, h2, l2⟩)
      · have e : xs ++ ys = xs := by
          have := l2.length
          rw [e2] at this
          rw [List.eq_nil_of_length_eq_zero this, List.append_nil]
        have t : Tell Z.P X.K W H Q (.tup (xs ++ ys)) W.c := q.2
        rw [e] at t
        exact Tell.now t s1 b1 (rep_tup.2 ⟨a, vs, rfl, h1, l1⟩)
      · exact Tell.fresh q.2 s1 b1 fun p n => rep_newT n s1 (l1.append l2)
    · rename_i xs ys
      rw [rep_lst] at r1 r2
      obtain ⟨a, vs, rfl, h1, l1⟩ := r1
      obtain ⟨b, us, rfl, h2, l2⟩ := r2
      exact op_cat pins s σ H _ _ u v Q I rx ry ⟨a, b, vs, us, rfl, rfl, s1 _ _ h1, s1 _ _ h2, by rw [← l1.length, ← l2.length]; exact q.1, Tell.fresh q.2 s1 b1 fun p n => rep_newL n s1 (l1.append l2)⟩
theorem RepL.flat {xs : List PV} {vs : List V} (l : RepL P K W xs vs) : ∀ n : Nat, RepL P K W (List.replicate n xs).flatten (List.replicate n vs).flatten
  | 0 => RepL.nil
  | n + 1 => by
    rw [List.replicate_succ, List.replicate_succ, List.flatten_cons, List.flatten_cons]
    exact l.append (RepL.flat l n)
def gMul : G2 := fun x y Q n => match x, y with
  | .int i, .int j => CMulX i j ∧ Q (.int (i * j)) n
  | .lst a, .int k => (-(2 ^ 63) ≤ k ∧ k < 2 ^ 63 ∧ a.length * k.toNat ≤ sizeLine) ∧ Q (.lst (List.replicate k.toNat a).flatten) n
  | _, _ => False
theorem dop_mul : DOp Z X (binaryOp .Mult) gMul := by
  refine ⟨fun x y Q Q' n hq h => ?_, fun pins s σ H x y u v Q I rx ry q => ?_⟩
  · cases x <;> cases y <;> first | exact h.elim | exact ⟨h.1, hq _ _ h.2⟩
  · obtain ⟨W, p, r, s1, b1, r1, r2, q⟩ := q
    cases p <;> cases r <;> first | exact q.elim | skip
    · rename_i i j
      rw [rep_int] at r1 r2
      subst r1; subst r2
      exact op_mulX pins s σ H _ _ u v Q I rx ry ⟨i, j, rfl, rfl, q.1, Tell.now q.2 s1 b1 (rep_int.2 rfl)⟩
    · rename_i xs k
      rw [rep_lst] at r1
      rw [rep_int] at r2
      obtain ⟨a, vs, rfl, h1, l1⟩ := r1
      subst r2
      exact op_rep pins s σ H _ _ u v Q I rx ry ⟨a, k, vs, rfl, rfl, s1 _ _ h1, q.1.1, q.1.2.1, by rw [← l1.length]; exact q.1.2.2, Tell.fresh q.2 s1 b1 fun p n => rep_newL n s1 (l1.flat _)⟩
mutual
def PV.toD : PV → PyData
  | .bl b => .bool b
  | .int i => .int i
  | .str s => .str s
  | .tup xs => .tuple (PV.toDs xs)
  | .lst xs => .list (PV.toDs xs)
  | .scr xs => .list (PV.toDs xs)
  | _ => .none
def PV.toDs : List PV → List PyData
  | [] => []
  | x :: xs => PV.toD x :: PV.toDs xs
end
mutual
def PV.okD : Nat → PV → Bool
  | _, .non => true
  | _, .bl _ => true
  | _, .int _ => true
  | _, .str s => PyData.strOk s
  | n + 1, .tup xs => PV.okDs n xs
  | n + 1, .lst xs => PV.okDs n xs
  | n + 1, .scr xs => PV.okDs n xs
  | _, _ => false
def PV.okDs : Nat → List PV → Bool
  | _, [] => true
  | n, x :: xs => PV.okD n x && PV.okDs n xs
end
mutual
def peq : PV → PV → Bool
  | .non, .non => true
  | .bl a, .bl b => a == b
  | .bl a, .int j => (if a then 1 else 0) == j
  | .int i, .bl b => i == (if b then 1 else 0)
  | .int i, .int j => i == j
  | .str x, .str y => x == y
  | .lst xs, .lst ys => peqs xs ys
  | .lst xs, .scr ys => peqs xs ys
  | .scr xs, .lst ys => peqs xs ys
  | .scr xs, .scr ys => peqs xs ys
  | .tup xs, .tup ys => peqs xs ys
  | _, _ => false
def peqs : List PV → List PV → Bool
  | [], [] => true
  | x :: xs, y :: ys => peq x y && peqs xs ys
  | _, _ => false
end
mutual
theorem eqv_peq : ∀ (x : PV) (n : Nat) (y : PV) (m : Nat), x.okD n = true → y.okD m = true → PyData.eqv x.toD y.toD = peq x y
  | .non, n, y, m, _, hy => by cases y <;> cases m <;> simp_all [PV.okD, PV.toD, peq, PyData.eqv]
  | .bl _, n, y, m, _, hy => by cases y <;> cases m <;> simp_all [PV.okD, PV.toD, peq, PyData.eqv]
  | .int _, n, y, m, _, hy => by cases y <;> cases m <;> simp_all [PV.okD, PV.toD, peq, PyData.eqv]
  | .str _, n, y, m, _, hy => by cases y <;> cases m <;> simp_all [PV.okD, PV.toD, peq, PyData.eqv]
  | .tup xs, n, y, m, hx, hy => by
    cases n with
    | zero => simp [PV.okD] at hx
    | succ n =>
      have hx' : PV.okDs n xs = true := by simpa [PV.okD] using hx
      cases y <;> cases m <;> first
        | (simp_all [PV.okD, PV.toD, peq, PyData.eqv]; done)
        | (rename_i ys m
           have hy' : PV.okDs m ys = true := by simpa [PV.okD] using hy
           simp only [PV.toD, peq, PyData.eqv]
           exact eqv_peqs xs n ys m hx' hy')
  | .lst xs, n, y, m, hx, hy => by
    cases n with
    | zero => simp [PV.okD] at hx
    | succ n =>
      have hx' : PV.okDs n xs = true := by simpa [PV.okD] using hx
      cases y <;> cases m <;> first
        | (simp_all [PV.okD, PV.toD, peq, PyData.eqv]; done)
        | (rename_i ys m
           have hy' : PV.okDs m ys = true := by simpa [PV.okD] using hy
           simp only [PV.toD, peq, PyData.eqv]
           exact eqv_peqs xs n ys m hx' hy')
  | .scr xs, n, y, m, hx, hy => by
    cases n with
    | zero => simp [PV.okD] at hx
    | succ n =>
      have hx' : PV.okDs n xs = true := by simpa [PV.okD] using hx
      cases y <;> cases m <;> first
        | (simp_all [PV.okD, PV.toD, peq, PyData.eqv]; done)
        | (rename_i ys m
           have hy' : PV.okDs m ys = true := by simpa [PV.okD] using hy
           simp only [PV.toD, peq, PyData.eqv]
           exact eqv_peqs xs n ys m hx' hy')
  | .ins _ _, n, _, _, hx, _ => by cases n <;> simp [PV.okD] at hx
  | .box _, n, _, _, hx, _ => by cases n <;> simp [PV.okD] at hx
  | .raw _, n, _, _, hx, _ => by cases n <;> simp [PV.okD] at hx
theorem eqv_peqs : ∀ (xs : List PV) (n : Nat) (ys : List PV) (m : Nat), PV.okDs n xs = true → PV.okDs m ys = true → PyData.eqvAll (PV.toDs xs) (PV.toDs ys) = peqs xs ys
  | [], n, ys, m, _, _ => by cases ys <;> simp [PV.toDs, peqs, PyData.eqvAll]
  | x :: xs, n, ys, m, hx, hy => by
    cases ys with
    | nil => simp [PV.toDs, peqs, PyData.eqvAll]
    | cons y ys =>
      simp only [PV.okDs, Bool.and_eq_true] at hx hy
      simp only [PV.toDs, peqs, PyData.eqvAll]
      rw [eqv_peq x n y m hx.1 hy.1, eqv_peqs xs n ys m hx.2 hy.2]
end
mutual
theorem toD_dp : ∀ (x : PV) (n : Nat) (v : V), x.okD n = true → Rep P K W x v → Same W.F H → Dp K H v x.toD
  | .non, _, _, _, r, _ => by rw [rep_non] at r; subst r; exact Dp.non
  | .bl b, _, _, _, r, _ => by rw [rep_bl] at r; subst r; exact Dp.bl b
  | .int i, _, _, _, r, _ => by rw [rep_int] at r; subst r; exact Dp.int i
  | .str i, _, _, _, r, _ => by rw [rep_str] at r; subst r; exact Dp.str i
  | .tup xs, n, _, h, r, s => by
    rw [rep_tup] at r
    obtain ⟨a, ys, rfl, h1, l⟩ := r
    cases n with
    | zero => simp [PV.okD] at h
    | succ n => simp only [PV.toD]; exact Dp.tup (sqT_same s h1) (toD_dps xs n ys (by simpa [PV.okD] using h) l s)
  | .lst xs, n, _, h, r, s => by
    rw [rep_lst] at r
    obtain ⟨a, ys, rfl, h1, l⟩ := r
    cases n with
    | zero => simp [PV.okD] at h
    | succ n => simp only [PV.toD]; exact Dp.lst (SqL.of (s _ _ h1)) (toD_dps xs n ys (by simpa [PV.okD] using h) l s)
  | .scr xs, n, _, h, r, s => by
    rw [rep_scr] at r
    obtain ⟨a, ys, rfl, h1, l⟩ := r
    cases n with
    | zero => simp [PV.okD] at h
    | succ n => simp only [PV.toD]; exact Dp.lst (sqL_same s h1) (toD_dps xs n ys (by simpa [PV.okD] using h) l s)
  | .ins _ _, n, _, h, _, _ => by cases n <;> simp [PV.okD] at h
  | .box _, n, _, h, _, _ => by cases n <;> simp [PV.okD] at h
  | .raw _, n, _, h, _, _ => by cases n <;> simp [PV.okD] at h
theorem toD_dps : ∀ (xs : List PV) (n : Nat) (vs : List V), PV.okDs n xs = true → RepL P K W xs vs → Same W.F H → DpAll K H vs (PV.toDs xs)
  | [], _, _, _, r, _ => by simp only [RepL] at r; subst r; simp only [PV.toDs]; exact DpAll.nil
  | x :: xs, n, _, h, r, s => by
    simp only [RepL] at r
    obtain ⟨y, zs, rfl, a, b⟩ := r
    simp only [PV.okDs, Bool.and_eq_true] at h
    simp only [PV.toDs]
    exact DpAll.cons (toD_dp x n y h.1 a s) (toD_dps xs n zs h.2 b s)
end
mutual
theorem okD_can : ∀ (x : PV) (n : Nat), x.okD n = true → x.toD.canLay0 = true ∧ x.toD.depth ≤ n
  | .non, n, _ => by simp [PV.toD, PyData.canLay0, PyData.depth]
  | .bl _, n, _ => by simp [PV.toD, PyData.canLay0, PyData.depth]
  | .int _, n, _ => by simp [PV.toD, PyData.canLay0, PyData.depth]
  | .str _, n, h => by
    have : n = n := rfl
    cases n <;> simpa [PV.okD, PV.toD, PyData.canLay0, PyData.depth] using h
  | .tup xs, n, h => by
    cases n with
    | zero => simp [PV.okD] at h
    | succ n =>
      have := okDs_can xs n (by simpa [PV.okD] using h)
      simp only [PV.toD, PyData.canLay0, PyData.depth]
      exact ⟨this.1, Nat.succ_le_succ this.2⟩
  | .lst xs, n, h => by
    cases n with
    | zero => simp [PV.okD] at h
    | succ n =>
      have := okDs_can xs n (by simpa [PV.okD] using h)
      simp only [PV.toD, PyData.canLay0, PyData.depth]
      exact ⟨this.1, Nat.succ_le_succ this.2⟩
  | .scr xs, n, h => by
    cases n with
    | zero => simp [PV.okD] at h
    | succ n =>
      have := okDs_can xs n (by simpa [PV.okD] using h)
      simp only [PV.toD, PyData.canLay0, PyData.depth]
      exact ⟨this.1, Nat.succ_le_succ this.2⟩
  | .ins _ _, n, h => by cases n <;> simp [PV.okD] at h
  | .box _, n, h => by cases n <;> simp [PV.okD] at h
  | .raw _, n, h => by cases n <;> simp [PV.okD] at h
theorem okDs_can : ∀ (xs : List PV) (n : Nat), PV.okDs n xs = true → PyData.canLayAll0 (PV.toDs xs) = true ∧ PyData.depthAll (PV.toDs xs) ≤ n
  | [], n, _ => by simp [PV.toDs, PyData.canLayAll0, PyData.depthAll]
  | x :: xs, n, h => by
    simp only [PV.okDs, Bool.and_eq_true] at h
    have a := okD_can x n h.1
    have b := okDs_can xs n h.2
    simp only [PV.toDs, PyData.canLayAll0, PyData.depthAll, a.1, b.1, Bool.and_self, true_and]
    exact Nat.max_le.2 ⟨a.2, b.2⟩
end
theorem okD_shaped {x : PV} (h : x.okD 60 = true) : SeqAt.shaped x.toD = true := by
  obtain ⟨a, b⟩ := okD_can x 60 h
  unfold SeqAt.shaped
  rw [a, decide_eq_true (by omega)]
  rfl
def gEq : G2 := fun x y Q n => (x.okD 60 = true ∧ y.okD 60 = true) ∧ Q (.bl (peq x y)) n
def gNe : G2 := fun x y Q n => (x.okD 60 = true ∧ y.okD 60 = true) ∧ Q (.bl (!peq x y)) n
theorem dop_eq (hu : X.A.units + 64 < cLine) : DOp Z X (compareOp .Eq) gEq := by
  refine ⟨fun x y Q Q' n hq h => ⟨h.1, hq _ _ h.2⟩, fun pins s σ H x y u v Q I rx ry q => ?_⟩
  obtain ⟨W, p, r, s1, b1, r1, r2, ⟨o1, o2⟩, q⟩ := q
  refine op_eqD hu pins s σ H x y u v Q I rx ry ⟨p.toD, r.toD, toD_dp p 60 x o1 r1 s1, toD_dp r 60 y o2 r2 s1, okD_shaped o1, okD_shaped o2, ?_⟩
  rw [eqv_peq p 60 r 60 o1 o2]
  exact Tell.now q s1 b1 (rep_bl.2 rfl)
theorem dop_ne (hu : X.A.units + 64 < cLine) : DOp Z X (compareOp .NotEq) gNe := by
  refine ⟨fun x y Q Q' n hq h => ⟨h.1, hq _ _ h.2⟩, fun pins s σ H x y u v Q I rx ry q => ?_⟩
  obtain ⟨W, p, r, s1, b1, r1, r2, ⟨o1, o2⟩, q⟩ := q
  refine op_neD hu pins s σ H x y u v Q I rx ry ⟨p.toD, r.toD, toD_dp p 60 x o1 r1 s1, toD_dp r 60 y o2 r2 s1, okD_shaped o1, okD_shaped o2, ?_⟩
  rw [eqv_peq p 60 r 60 o1 o2]
  exact Tell.now q s1 b1 (rep_bl.2 rfl)
end
end DL
set_option maxRecDepth 100000
set_option maxHeartbeats 1000000
namespace DL
open PySem L2
section
variable {Z : Cz} {X : Cx} {P : Par} {K : PySem.W.Frag} {W : Wd} {H : Hp} {e a b o : Expr} {es rest : List Expr} {pos p apos cpos p2 : Pos} {ta tb te : DT} {t u : DB}
abbrev GB := PV → (Bool → Pd) → Pd
structure DTru (Z : Cz) (X : Cx) (g : GB) : Prop where
  mono : ∀ x (Q Q' : Bool → Pd) n, (∀ b n, Q b n → Q' b n) → g x Q n → g x Q' n
  run : TruR X fun v H Q => ∃ W x, Same W.F H ∧ BoxOk Z.P X.K W H ∧ Rep Z.P X.K W x v ∧ g x (fun b n => ∀ W' H', Fr0 Z.P X.K H W W' H' → W'.c = n → Q b H') W.c
def gTru : GB := fun x Q n => match x with
  | .non => Q false n
  | .bl b => Q b n
  | .int i => Q (i != 0) n
  | .str s => s.length ≤ sizeLine ∧ Q ((s.length : Int) != 0) n
  | .tup xs => Q (!xs.isEmpty) n
  | .lst xs => Q (!xs.isEmpty) n
  | .scr xs => Q (!xs.isEmpty) n
  | .box k => ∃ xs, n.isL k xs ∧ Q (!xs.isEmpty) n
  | _ => False
theorem gTru_mono : ∀ x (Q Q' : Bool → Pd) n, (∀ b n, Q b n → Q' b n) → gTru x Q n → gTru x Q' n := fun x Q Q' n hq h => by
  cases x <;> first | exact h.elim | exact hq _ _ h | exact ⟨h.1, hq _ _ h.2⟩ | exact let ⟨xs, e, q⟩ := h; ⟨xs, e, hq _ _ q⟩
theorem RepL.empty {ps : List PV} {vs : List V} (l : RepL P K W ps vs) : ps.isEmpty = vs.isEmpty := by
  have := l.length
  cases ps <;> cases vs <;> first | rfl | (simp at this)
theorem tru_of {x : PV} {v : V} {Q : Bool → Pd} (r : Rep P K W x v) (s : Same W.F H) (b : BoxOk P K W H) (h : gTru x Q W.c) : ∃ k, TruV K v H k ∧ Q k W.c := by
  cases x with
  | non => rw [rep_non] at r; subst r; exact ⟨false, rfl, h⟩
  | bl b => rw [rep_bl] at r; subst r; exact ⟨b, rfl, h⟩
  | int i => rw [rep_int] at r; subst r; exact ⟨_, rfl, h⟩
  | str i => rw [rep_str] at r; subst r; exact ⟨_, ⟨h.1, rfl⟩, h.2⟩
  | tup xs =>
    rw [rep_tup] at r
    obtain ⟨a, ys, rfl, h1, l⟩ := r
    refine ⟨_, Or.inr (Or.inl ⟨ys, sqT_same s h1, rfl⟩), ?_⟩
    rw [← l.empty]; exact h
  | lst xs =>
    rw [rep_lst] at r
    obtain ⟨a, ys, rfl, h1, l⟩ := r
    refine ⟨_, Or.inl ⟨ys, SqL.of (s _ _ h1), rfl⟩, ?_⟩
    rw [← l.empty]; exact h
  | scr xs =>
    rw [rep_scr] at r
    obtain ⟨a, ys, rfl, h1, l⟩ := r
    refine ⟨_, Or.inl ⟨ys, sqL_same s h1, rfl⟩, ?_⟩
    rw [← l.empty]; exact h
  | box k =>
    obtain ⟨xs, e, h⟩ := h
    obtain ⟨a, ys, rfl, _, h1, l⟩ := box_lst b r e
    refine ⟨_, Or.inl ⟨ys, SqL.of h1, rfl⟩, ?_⟩
    rw [← l.empty]; exact h
  | _ => exact h.elim
theorem dtru : DTru Z X gTru := by
  refine ⟨gTru_mono, fun pins s σ H x v Q I rx h => ?_⟩
  obtain ⟨W, p, s1, b1, r, h⟩ := h
  obtain ⟨k, e, q⟩ := tru_of r s1 b1 h
  exact tru_ok pins s σ H x v Q I rx ⟨k, e, q W H (Fr0.refl s1 b1) rfl⟩
def dTru (g : GB) (ta : DT) : DB := fun ρ Q => ta ρ fun x => g x Q
theorem dt_truth {g : GB} (h : DTru Z X g) (ha : DE Z X e te) (he : ∀ whole, isTrue e X.env whole = (do let v ← whole; standAt e.pos; holding [v] (truthy v)) := by intro _; rfl) : DTs Z X e (dTru g te) := by
  refine ⟨fun ρ Q Q' n hq q => ha.mono ρ _ _ _ (fun x n q => h.mono x _ _ _ hq q) q, PT.weak (pt_truthR ha.run h.run he) fun σ H Q q => ?_⟩
  obtain ⟨W, ρ, S, q⟩ := q
  refine ⟨W, ρ, S, ha.mono ρ _ _ _ (fun x n q v W1 H1 f1 c1 r1 => ?_) q⟩
  exact ⟨W1, x, f1.sub, f1.box, r1, h.mono x _ _ _ (fun b n q W2 H2 f2 c2 => q W2 H2 (f1.trans f2) c2) (c1 ▸ q)⟩
def dTst (ta : DT) : DB := fun ρ Q => ta ρ fun x n => match x with
  | .bl b => Q b n
  | _ => False
theorem dTst_mono (ha : MonoT ta) : MonoT (dTst ta) := fun ρ Q Q' n hq q => ha ρ _ _ _ (fun x n h => by
  cases x <;> first | exact h.elim | exact hq _ _ h) q
theorem lift_tst (ha : MonoT ta) {σ : L2.St} {H : Hp} {Q : Bool → Hp → Prop} {t' : TE} (w : ∀ σ H Q, liftE Z.P X.K Z.H0 Z.W0 ta σ H Q → t' σ H Q) (h : liftB Z.P X.K Z.H0 Z.W0 (dTst ta) σ H Q) : tTest t' σ H Q := by
  refine w σ H _ ?_
  obtain ⟨W, ρ, S, q⟩ := h
  refine ⟨W, ρ, S, ha ρ _ _ _ (fun x n q v W1 H1 f1 c1 r1 => ?_) q⟩
  cases x <;> first | exact q.elim | skip
  rw [rep_bl] at r1
  exact ⟨_, r1, q W1 H1 f1 c1⟩
theorem dt_cmp {op : CmpOp} {g : G2} (h : DOp Z X (compareOp op) g) (ha : DE Z X a ta) (hb : DE Z X b tb) (hm : behindInMarks op b = false := by rfl) : DTs Z X (.Compare a [op] [b] pos) (dTst (dBin g ta tb)) :=
  ⟨dTst_mono (dBin_mono h.mono ha.mono hb.mono), PT.weak (pt_cmpR h.run ha.run hb.run hm) fun _ _ _ q => lift_tst (dBin_mono h.mono ha.mono hb.mono) (fun _ _ _ q => lift_bin h.mono ha.mono hb.mono q) q⟩
def dOr (t u : DB) : DB := fun ρ Q => t ρ fun c => if c = true then Q true else u ρ Q
def dNot (t : DB) : DB := fun ρ Q => t ρ fun c => Q (!c)
theorem dOr_mono (h1 : MonoT t) (h2 : MonoT u) : MonoT (dOr t u) := fun ρ Q Q' n hq q => h1 ρ _ _ _ (fun c n q => by
  cases c with
  | false => rw [if_neg Bool.false_ne_true] at q ⊢; exact h2 ρ _ _ _ hq q
  | true => rw [if_pos rfl] at q ⊢; exact hq _ _ q) q
theorem dNot_mono (h1 : MonoT t) : MonoT (dNot t) := fun ρ Q Q' n hq q => h1 ρ _ _ _ (fun c n q => hq _ _ q) q
theorem dw_or1 (ha : DTs Z X a t) : DW Z X (.BoolOp .Or [a] pos) t := ⟨ha.mono, pw_or1 ha.run⟩
theorem dw_or (ha : DTs Z X a t) (hb : DW Z X (.BoolOp .Or (b :: rest) pos) u) : DW Z X (.BoolOp .Or (a :: b :: rest) pos) (dOr t u) := by
  refine ⟨dOr_mono ha.mono hb.mono, PW.weak (pw_or ha.run hb.run) fun σ H Q q => ?_⟩
  obtain ⟨W, ρ, S, q⟩ := q
  refine ⟨W, ρ, S, ha.mono ρ _ _ _ (fun c n q W1 H1 f1 c1 => ?_) q⟩
  cases c with
  | false => exact ⟨W1, ρ, S.step f1, hb.mono ρ _ _ _ (fun d n q W2 H2 f2 c2 => q W2 H2 (f1.trans f2) c2) (c1 ▸ q)⟩
  | true => exact q W1 H1 f1 c1
theorem DW.pt (h : DW Z X e t) : DTs Z X e t := ⟨h.mono, h.run.pt⟩
theorem dt_not (ha : DTs Z X a t) : DTs Z X (.UnaryOp .Not a pos) (dNot t) := by
  refine ⟨dNot_mono ha.mono, PT.weak (pt_not ha.run) fun σ H Q q => ?_⟩
  obtain ⟨W, ρ, S, q⟩ := q
  exact ⟨W, ρ, S, q⟩
def dNil : DA := fun _ Q => Q []
def dCons (ta : DT) (tr : DA) : DA := fun ρ Q => ta ρ fun x => tr ρ fun xs => Q (x :: xs)
theorem da_nil : DAs Z X [] dNil := ⟨fun _ _ _ _ hq q => hq _ _ q, PA.weak pa_nil fun σ H Q q => by
  obtain ⟨W, ρ, S, q⟩ := q
  exact q [] W H (Fr0.refl S.same S.box) rfl RepL.nil⟩
theorem da_cons {tr : DA} (ha : DE Z X e te) (hr : DAs Z X es tr) (hs : starEach (e :: es) X.env = (false, eval e X.env) :: starEach es X.env := by rfl) : DAs Z X (e :: es) (dCons te tr) := by
  refine ⟨fun ρ Q Q' n hq q => ha.mono ρ _ _ _ (fun x n q => hr.mono ρ _ _ _ (fun xs n q => hq _ _ q) q) q, PA.weak (pa_cons ha.run hr.run hs) fun σ H Q q => ?_⟩
  obtain ⟨W, ρ, S, q⟩ := q
  refine ⟨W, ρ, S, ha.mono ρ _ _ _ (fun x n q v W1 H1 f1 c1 r1 => ?_) q⟩
  refine ⟨W1, ρ, S.step f1, hr.mono ρ _ _ _ (fun xs n q vs W2 H2 f2 c2 r2 => ?_) (c1 ▸ q)⟩
  exact q _ W2 H2 (f1.trans f2) c2 (RepL.cons (Rep.mono f2.le _ _ r1) r2)
def dTup (t : DA) : DT := fun ρ Q => t ρ fun xs n => xs.length ≤ sizeLine ∧ Q (.tup xs) n
def dLst (t : DA) : DT := fun ρ Q => t ρ fun xs n => xs.length ≤ sizeLine ∧ Q (.lst xs) n
theorem de_tup {t : DA} {x1} (h : DAs Z X es t) : DE Z X (.Tuple es x1 pos) (dTup t) := by
  refine ⟨fun ρ Q Q' n hq q => h.mono ρ _ _ _ (fun xs n q => ⟨q.1, hq _ _ q.2⟩) q, PE.weak (pe_tup h.run) fun σ H Q q => ?_⟩
  obtain ⟨W, ρ, S, q⟩ := q
  refine ⟨W, ρ, S, h.mono ρ _ _ _ (fun xs n q vs W1 H1 f1 c1 r1 => ⟨by rw [← r1.length]; exact q.1, fun p n => ?_⟩) q⟩
  exact q.2 _ _ _ (f1.trans (Fr0.new f1.sub f1.box n)) c1 (rep_newT n f1.sub r1)
theorem de_lst {t : DA} (h : DAs Z X es t) : DE Z X (.List es pos) (dLst t) := by
  refine ⟨fun ρ Q Q' n hq q => h.mono ρ _ _ _ (fun xs n q => ⟨q.1, hq _ _ q.2⟩) q, PE.weak (pe_lst h.run) fun σ H Q q => ?_⟩
  obtain ⟨W, ρ, S, q⟩ := q
  refine ⟨W, ρ, S, h.mono ρ _ _ _ (fun xs n q vs W1 H1 f1 c1 r1 => ⟨by rw [← r1.length]; exact q.1, fun p n => ?_⟩) q⟩
  exact q.2 _ _ _ (f1.trans (Fr0.new f1.sub f1.box n)) c1 (rep_newL n f1.sub r1)
theorem de_callB {id : String} {g : GN} {x : Str} {t : DA} (hc : DCall Z X (.builtin id) g) (hm : X.mg x = none) (hv : bootBuiltins x = some (.builtin id)) (ha : DAs Z X (e :: es) t) (hg : Gl X x := by rfl) (hn : x ≠ "__name__" := by decide) (hdb : (x == ("__debug__" : Str)) = false := by decide)
    (he : starEach (e :: es) X.env = (false, eval e X.env) :: starEach es X.env := by rfl) (hpl : (backTo pos (starEach es X.env)).any (·.1) = false := by rfl) : DE Z X (.Call (.Name x p) (e :: es) [] pos) (dApp g t) :=
  ⟨dApp_mono hc.mono ha.mono, PE.weak (pe_callB hc.run hg hm hv ha.run hn hdb he hpl) fun _ _ _ q => lift_app hc.mono ha.mono q⟩
def gN1 (g : G1) : GN := fun xs Q n => match xs with
  | [x] => g x Q n
  | _ => False
def gN2 (g : G2) : GN := fun xs Q n => match xs with
  | [x, y] => g x y Q n
  | _ => False
theorem gN1_mono {g : G1} (h : MonoG1 g) : MonoGN (gN1 g) := fun xs Q Q' n hq q => by
  match xs, q with
  | [x], q => exact h x Q Q' n hq q
theorem gN2_mono {g : G2} (h : MonoG2 g) : MonoGN (gN2 g) := fun xs Q Q' n hq q => by
  match xs, q with
  | [x, y], q => exact h x y Q Q' n hq q
theorem RepL.one {x : PV} {vs : List V} (r : RepL P K W [x] vs) : ∃ v, vs = [v] ∧ Rep P K W x v := by
  simp only [RepL] at r
  obtain ⟨y, zs, e, a, b⟩ := r
  exact ⟨y, by rw [e, b], a⟩
theorem RepL.two {x y : PV} {vs : List V} (r : RepL P K W [x, y] vs) : ∃ v w, vs = [v, w] ∧ Rep P K W x v ∧ Rep P K W y w := by
  simp only [RepL] at r
  obtain ⟨v, zs, e, a, w, zs', e', b, e2⟩ := r
  exact ⟨v, w, by rw [e, e', e2], a, b⟩
theorem dcall1 {f : Value} {g : G1} {r : List V → Hp → VK → Prop} (hg : MonoG1 g) (h : CallR X f r) (w : ∀ W H v x Q, Same W.F H → BoxOk Z.P X.K W H → Rep Z.P X.K W x v → g x (Tell Z.P X.K W H Q) W.c → r [v] H Q) : DCall Z X f (gN1 g) := by
  refine ⟨gN1_mono hg, fun pins s σ H xs us Q I rx q => ?_⟩
  obtain ⟨W, ps, s1, b1, r1, q⟩ := q
  match ps, r1, q with
  | [x], r1, q =>
    obtain ⟨v, rfl, r2⟩ := r1.one
    exact h pins s σ H _ us Q I rx (w W H v x Q s1 b1 r2 q)
theorem dcall2 {f : Value} {g : G2} {r : List V → Hp → VK → Prop} (hg : MonoG2 g) (h : CallR X f r) (w : ∀ W H v u x y Q, Same W.F H → BoxOk Z.P X.K W H → Rep Z.P X.K W x v → Rep Z.P X.K W y u → g x y (Tell Z.P X.K W H Q) W.c → r [v, u] H Q) : DCall Z X f (gN2 g) := by
  refine ⟨gN2_mono hg, fun pins s σ H xs us Q I rx q => ?_⟩
  obtain ⟨W, ps, s1, b1, r1, q⟩ := q
  match ps, r1, q with
  | [x, y], r1, q =>
    obtain ⟨v, u, rfl, r3, r2⟩ := r1.two
    exact h pins s σ H _ us Q I rx (w W H v u x y Q s1 b1 r3 r2 q)
def gLen : G1 := fun x Q n => match x with
  | .tup xs => Q (.int xs.length) n
  | .lst xs => Q (.int xs.length) n
  | .scr xs => Q (.int xs.length) n
  | .str s => s.length ≤ sizeLine ∧ Q (.int s.length) n
  | .box k => ∃ xs, n.isL k xs ∧ Q (.int xs.length) n
  | _ => False
theorem dc_len : DCall Z X (.builtin "len") (gN1 gLen) := by
  refine dcall1 (fun x Q Q' n hq h => ?_) call_len fun W H v x Q s1 b1 r q => ?_
  · cases x <;> first | exact h.elim | exact hq _ _ h | exact ⟨h.1, hq _ _ h.2⟩ | exact let ⟨xs, e, q⟩ := h; ⟨xs, e, hq _ _ q⟩
  · cases x <;> first | exact q.elim | skip
    · rename_i i
      rw [rep_str] at r; subst r
      exact ⟨_, _, rfl, ⟨q.1, rfl⟩, Tell.now q.2 s1 b1 (rep_int.2 rfl)⟩
    · rename_i xs
      rw [rep_tup] at r
      obtain ⟨a, ys, rfl, h1, l⟩ := r
      exact ⟨_, _, rfl, Or.inr ⟨ys, sqT_same s1 h1, l.length⟩, Tell.now q s1 b1 (rep_int.2 rfl)⟩
    · rename_i xs
      rw [rep_lst] at r
      obtain ⟨a, ys, rfl, h1, l⟩ := r
      exact ⟨_, _, rfl, Or.inl ⟨ys, SqL.of (s1 _ _ h1), l.length⟩, Tell.now q s1 b1 (rep_int.2 rfl)⟩
    · rename_i xs
      rw [rep_scr] at r
      obtain ⟨a, ys, rfl, h1, l⟩ := r
      exact ⟨_, _, rfl, Or.inl ⟨ys, sqL_same s1 h1, l.length⟩, Tell.now q s1 b1 (rep_int.2 rfl)⟩
    · obtain ⟨xs, e, q⟩ := q
      obtain ⟨a, ys, rfl, _, h1, l⟩ := box_lst b1 r e
      exact ⟨_, _, rfl, Or.inl ⟨ys, SqL.of h1, l.length⟩, Tell.now q s1 b1 (rep_int.2 rfl)⟩
def gInt : G1 := fun x Q n => match x with
  | .int i => Q (.int i) n
  | .bl b => Q (.int (if b then 1 else 0)) n
  | _ => False
def gBool : G1 := fun x Q n => match x with
  | .int i => Q (.bl (i != 0)) n
  | .bl b => Q (.bl b) n
  | _ => False
def gList : G1 := fun x Q n => match x with
  | .tup xs => Q (.lst xs) n
  | .lst xs => Q (.lst xs) n
  | .scr xs => Q (.lst xs) n
  | .box k => ∃ xs, n.isL k xs ∧ Q (.lst xs) n
  | _ => False
def gTuple : G1 := fun x Q n => match x with
  | .tup xs => Q (.tup xs) n
  | .lst xs => Q (.tup xs) n
  | .scr xs => Q (.tup xs) n
  | .box k => ∃ xs, n.isL k xs ∧ Q (.tup xs) n
  | _ => False
def gMax2 : G2 := gII TT2 fun i j => .int (if j > i then j else i)
def gMin2 : G2 := gII TT2 fun i j => .int (if j < i then j else i)
theorem dc_min2 (hc : X.calm = true) : DCall Z X (.builtin "min") (gN2 gMin2) := by
  refine dcall2 gII_mono (call_min2 hc) fun W H v u x y Q s1 b1 r1 r2 q => ?_
  cases x <;> cases y <;> first | exact q.elim | skip
  rw [rep_int] at r1 r2; subst r1; subst r2
  exact ⟨_, _, rfl, Tell.now q.2 s1 b1 (rep_int.2 rfl)⟩
def ints? : List PV → Option (List Int)
  | [] => some []
  | .int i :: xs => (ints? xs).map (i :: ·)
  | _ => none
theorem ints?_map : ∀ ns : List Int, ints? (ns.map .int) = some ns
  | [] => rfl
  | n :: ns => by simp [ints?, ints?_map ns]
theorem ints?_rep : ∀ {xs : List PV} {ns : List Int} {vs : List V}, ints? xs = some ns → RepL P K W xs vs → vs = ns.map V.int
  | [], ns, vs, e, r => by
    simp only [RepL] at r
    cases e
    exact r
  | x :: xs, ns, vs, e, r => by
    cases x <;> first | (cases e; done) | skip
    rename_i i
    simp only [ints?, Option.map_eq_some_iff] at e
    obtain ⟨ms, e, rfl⟩ := e
    simp only [RepL] at r
    obtain ⟨y, zs, rfl, a, b⟩ := r
    rw [rep_int] at a
    rw [a, ints?_rep e b]
    rfl
def gSum : G1 := fun x Q n => match x with
  | .lst xs => ∃ ns, ints? xs = some ns ∧ Q (.int ns.sum) n
  | .scr xs => ∃ ns, ints? xs = some ns ∧ Q (.int ns.sum) n
  | _ => False
theorem dc_sum (hc : X.calm = true) : DCall Z X (.builtin "sum") (gN1 gSum) := by
  refine dcall1 (fun x Q Q' n hq h => ?_) (cr_sum hc) fun W H v x Q s1 b1 r q => ?_
  · cases x <;> first | exact h.elim | exact let ⟨ns, e, q⟩ := h; ⟨ns, e, hq _ _ q⟩
  · cases x <;> first | exact q.elim | skip
    · rw [rep_lst] at r
      obtain ⟨a, ys, rfl, h1, l⟩ := r
      obtain ⟨ns, e, q⟩ := q
      exact ⟨a, ns, rfl, by rw [← ints?_rep e l]; exact SqL.of (s1 _ _ h1), Tell.now q s1 b1 (rep_int.2 rfl)⟩
    · rw [rep_scr] at r
      obtain ⟨a, ys, rfl, h1, l⟩ := r
      obtain ⟨ns, e, q⟩ := q
      exact ⟨a, ns, rfl, by rw [← ints?_rep e l]; exact sqL_same s1 h1, Tell.now q s1 b1 (rep_int.2 rfl)⟩
def gIx : G2 := fun x y Q n => match x, y with
  | .tup xs, .int i => ∃ v, atI xs i = some v ∧ Q v n
  | .lst xs, .int i => ∃ v, atI xs i = some v ∧ Q v n
  | .scr xs, .int i => ∃ v, atI xs i = some v ∧ Q v n
  | .str z, .int i => z.length ≤ sizeLine ∧ ∃ c, atI z.cps.toList i = some c ∧ Q (.str ⟨#[c]⟩) n
  | .box k, .int i => ∃ xs v, n.isL k xs ∧ atI xs i = some v ∧ Q v n
  | _, _ => False
theorem RepL.atI {xs : List PV} {vs : List V} {i : Int} {p : PV} (l : RepL P K W xs vs) (h : L2.atI xs i = some p) : ∃ v, L2.atI vs i = some v ∧ Rep P K W p v := by
  unfold L2.atI at h ⊢
  rw [← l.length]
  cases e : ixN xs.length i with
  | none => rw [e] at h; cases h
  | some j =>
    rw [e, Option.bind_some] at h
    obtain ⟨v, h2, r⟩ := l.get h
    exact ⟨v, by rw [Option.bind_some]; exact h2, r⟩
theorem gIx_mono : MonoG2 gIx := fun x y Q Q' n hq h => by
  cases x <;> cases y <;> first | exact h.elim | exact let ⟨v, e, q⟩ := h; ⟨v, e, hq _ _ q⟩ | exact let ⟨z, v, e, q⟩ := h; ⟨z, v, e, hq _ _ q⟩ | exact let ⟨z, v, e, e2, q⟩ := h; ⟨z, v, e, e2, hq _ _ q⟩
theorem ix_all : IxR X (r2Of Z.P X.K gIx) := by
  intro va sl pins s σ H x y u v Q I rx ry q hsub
  obtain ⟨W, p, r, s1, b1, r1, r2, q⟩ := q
  cases p <;> cases r <;> first | exact q.elim | skip
  all_goals rw [rep_int] at r2; subst r2
  · rw [rep_str] at r1; subst r1
    obtain ⟨hz, c, e, q⟩ := q
    refine ix_str va sl pins s σ H _ _ u v Q I rx ry ?_ hsub; exact ⟨_, _, c, rfl, rfl, hz, e, Tell.now q s1 b1 (rep_str.2 rfl)⟩
  · rw [rep_tup] at r1
    obtain ⟨a, ys, rfl, h1, l⟩ := r1
    obtain ⟨p, e, q⟩ := q
    obtain ⟨w, e2, r⟩ := l.atI e
    refine ix_tup va sl pins s σ H _ _ u v Q I rx ry ?_ hsub; exact ⟨a, ys, _, w, rfl, rfl, sqT_same s1 h1, e2, Tell.now q s1 b1 r⟩
  · rw [rep_lst] at r1
    obtain ⟨a, ys, rfl, h1, l⟩ := r1
    obtain ⟨p, e, q⟩ := q
    obtain ⟨w, e2, r⟩ := l.atI e
    refine ix_list va sl pins s σ H _ _ u v Q I rx ry ?_ hsub; exact ⟨a, ys, _, w, rfl, rfl, SqL.of (s1 _ _ h1), e2, Tell.now q s1 b1 r⟩
  · rw [rep_scr] at r1
    obtain ⟨a, ys, rfl, h1, l⟩ := r1
    obtain ⟨p, e, q⟩ := q
    obtain ⟨w, e2, r⟩ := l.atI e
    refine ix_list va sl pins s σ H _ _ u v Q I rx ry ?_ hsub; exact ⟨a, ys, _, w, rfl, rfl, sqL_same s1 h1, e2, Tell.now q s1 b1 r⟩
  · obtain ⟨xs, p, e0, e, q⟩ := q
    obtain ⟨a, ys, rfl, _, h1, l⟩ := box_lst b1 r1 e0
    obtain ⟨w, e2, r⟩ := l.atI e
    refine ix_list va sl pins s σ H _ _ u v Q I rx ry ?_ hsub; exact ⟨a, ys, _, w, rfl, rfl, SqL.of h1, e2, Tell.now q s1 b1 r⟩
theorem de_ix (ha : DE Z X a ta) (hb : DE Z X b tb) (hs : PlainIx b := by exact fun _ _ => rfl) : DE Z X (.Subscript a b pos) (dBin gIx ta tb) :=
  ⟨dBin_mono gIx_mono ha.mono hb.mono, PE.weak (pe_ix ix_all ha.run hb.run hs) fun _ _ _ q => lift_bin gIx_mono ha.mono hb.mono q⟩
abbrev DO := Rho → (Option Int → Pd) → Pd
structure DPo (Z : Cz) (X : Cx) (e : Option Expr) (t : DO) : Prop where
  mono : MonoT t
  run : PO X e fun σ H Q => ∃ W ρ, SR Z.P X.K Z.H0 Z.W0 W σ H ρ ∧ t ρ (fun i n => ∀ W' H', Fr0 Z.P X.K H W W' H' → W'.c = n → Q i H') W.c
def dNoP : DO := fun _ Q => Q none
def dP (te : DT) : DO := fun ρ Q => te ρ fun x n => match x with
  | .int i => Q (some i) n
  | _ => False
theorem PO.weak {e : Option Expr} {t t' : TO} (h : PO X e t) (w : ∀ σ H Q, t' σ H Q → t σ H Q) : PO X e t' := ⟨fun pins s σ H Q I q => h.run pins s σ H Q I (w σ H Q q)⟩
theorem dp_none : DPo Z X none dNoP := ⟨fun _ _ _ _ hq q => hq _ _ q, PO.weak po_none fun σ H Q q => by
  obtain ⟨W, ρ, S, q⟩ := q
  exact q W H (Fr0.refl S.same S.box) rfl⟩
theorem dp_some (h : DE Z X e te) : DPo Z X (some e) (dP te) := by
  refine ⟨fun ρ Q Q' n hq q => h.mono ρ _ _ _ (fun x n q => by cases x <;> first | exact q.elim | exact hq _ _ q) q, PO.weak (po_some h.run) fun σ H Q q => ?_⟩
  obtain ⟨W, ρ, S, q⟩ := q
  refine ⟨W, ρ, S, h.mono ρ _ _ _ (fun x n q v W1 H1 f1 c1 r1 => ?_) q⟩
  cases x <;> first | exact q.elim | skip
  rw [rep_int] at r1
  exact ⟨_, r1, q W1 H1 f1 c1⟩
def cutP {α : Type} (xs : List α) (lo hi : Option Int) : List α := (xs.drop (HT.sIx xs.length 0 lo)).take (HT.sIx xs.length xs.length hi - HT.sIx xs.length 0 lo)
theorem RepL.cut {xs : List PV} {vs : List V} (l : RepL P K W xs vs) (lo hi : Option Int) : RepL P K W (cutP xs lo hi) (cutV vs lo hi) := by
  unfold cutP cutV
  rw [l.length]
  exact (l.drop _).take _
def gSl (x : PV) (lo hi : Option Int) (Q : PV → Pd) : Pd := fun n => match x with
  | .tup xs => Q (.tup (cutP xs lo hi)) n
  | .lst xs => Q (.lst (cutP xs lo hi)) n
  | .scr xs => Q (.lst (cutP xs lo hi)) n
  | .str z => z.length ≤ sizeLine ∧ Q (.str (cutS z lo hi)) n
  | .box k => ∃ xs, n.isL k xs ∧ Q (.lst (cutP xs lo hi)) n
  | _ => False
theorem gSl_mono (x : PV) (lo hi : Option Int) (Q Q' : PV → Pd) (n : Ck) (hq : ∀ p n, Q p n → Q' p n) (h : gSl x lo hi Q n) : gSl x lo hi Q' n := by
  cases x <;> first | exact h.elim | exact hq _ _ h | exact ⟨h.1, hq _ _ h.2⟩ | exact let ⟨xs, e, q⟩ := h; ⟨xs, e, hq _ _ q⟩
def rSlOf (P : Par) (K : PySem.W.Frag) : V → Option Int → Option Int → Hp → VK → Prop := fun v lo hi H Q => ∃ W x, Same W.F H ∧ BoxOk P K W H ∧ Rep P K W x v ∧ gSl x lo hi (Tell P K W H Q) W.c
theorem cutP_all {α : Type} {xs : List α} {lo hi : Option Int} (h : HT.sIx xs.length 0 lo = 0 ∧ HT.sIx xs.length xs.length hi = xs.length) : cutP xs lo hi = xs := by
  unfold cutP
  rw [h.1, h.2, List.drop_zero, Nat.sub_zero, List.take_length]
theorem sl_all : SlR X (rSlOf Z.P X.K) := by
  intro pins s σ H x v vl vu lo hi sl Q I rx hs pl pu q
  obtain ⟨W, p, s1, b1, r1, q⟩ := q
  cases p <;> first | exact q.elim | skip
  · rw [rep_str] at r1; subst r1
    exact sl_str pins s σ H _ v vl vu lo hi sl Q I rx hs pl pu ⟨_, rfl, q.1, Tell.now q.2 s1 b1 (rep_str.2 rfl)⟩
  · rw [rep_tup] at r1
    obtain ⟨a, ys, rfl, h1, l⟩ := r1
    refine sl_tupA pins s σ H _ v vl vu lo hi sl Q I rx hs pl pu ⟨a, ys, rfl, sqT_same s1 h1, fun hw => ?_, fun hw => ?_⟩
    · rw [← l.length] at hw
      have q' : Tell Z.P X.K W H Q (.tup (cutP _ lo hi)) W.c := q
      rw [cutP_all hw] at q'
      exact Tell.now q' s1 b1 (rep_tup.2 ⟨a, ys, rfl, h1, l⟩)
    · exact Tell.fresh q s1 b1 fun p n => rep_newT n s1 (l.cut lo hi)
  · rw [rep_lst] at r1
    obtain ⟨a, ys, rfl, h1, l⟩ := r1
    exact sl_list pins s σ H _ v vl vu lo hi sl Q I rx hs pl pu ⟨a, ys, rfl, SqL.of (s1 _ _ h1), Tell.fresh q s1 b1 fun p n => rep_newL n s1 (l.cut lo hi)⟩
  · rw [rep_scr] at r1
    obtain ⟨a, ys, rfl, h1, l⟩ := r1
    exact sl_list pins s σ H _ v vl vu lo hi sl Q I rx hs pl pu ⟨a, ys, rfl, sqL_same s1 h1, Tell.fresh q s1 b1 fun p n => rep_newL n s1 (l.cut lo hi)⟩
  · obtain ⟨xs, e, q⟩ := q
    obtain ⟨a, ys, rfl, _, h1, l⟩ := box_lst b1 r1 e
    exact sl_list pins s σ H _ v vl vu lo hi sl Q I rx hs pl pu ⟨a, ys, rfl, SqL.of h1, Tell.fresh q s1 b1 fun p n => rep_newL n s1 (l.cut lo hi)⟩
def dSl (te : DT) (tl th : DO) : DT := fun ρ Q => te ρ fun x => tl ρ fun l => th ρ fun u => gSl x l u Q
theorem de_slice {lo hi : Option Expr} {tl th : DO} (he : DE Z X e te) (hl : DPo Z X lo tl) (hu : DPo Z X hi th) : DE Z X (.Subscript e (.Slice lo hi none p2) pos) (dSl te tl th) := by
  refine ⟨fun ρ Q Q' n hq q => he.mono ρ _ _ _ (fun x n q => hl.mono ρ _ _ _ (fun l n q => hu.mono ρ _ _ _ (fun u n q => gSl_mono x l u _ _ _ hq q) q) q) q, PE.weak (pe_slice (sl_all (Z := Z)) he.run hl.run hu.run) fun σ H Q q => ?_⟩
  obtain ⟨W, ρ, S, q⟩ := q
  refine ⟨W, ρ, S, he.mono ρ _ _ _ (fun x n q v W1 H1 f1 c1 r1 => ?_) q⟩
  refine ⟨W1, ρ, S.step f1, hl.mono ρ _ _ _ (fun l n q W2 H2 f2 c2 => ?_) (c1 ▸ q)⟩
  refine ⟨W2, ρ, (S.step f1).step f2, hu.mono ρ _ _ _ (fun u n q W3 H3 f3 c3 => ?_) (c2 ▸ q)⟩
  exact ⟨W3, x, f3.sub, f3.box, Rep.mono (f2.le.trans f3.le) _ _ r1, gSl_mono x l u _ _ _ (fun p n q v W4 H4 f4 c4 r4 => q v W4 H4 ((f1.trans f2).trans (f3.trans f4)) c4 r4) (c3 ▸ q)⟩
def idx (f : Str) : List Str → Option Nat
  | [] => none
  | g :: gs => if f = g then some 0 else (idx f gs).map (· + 1)
theorem idx_lookup : ∀ {gs : List (Str × V)} {f : Str} {i : Nat} {v : V}, idx f (gs.map (·.1)) = some i → (gs.map (·.2))[i]? = some v → gs.lookup f = some v
  | [], _, _, _, e, _ => by simp [idx] at e
  | (g, w) :: gs, f, i, v, e, h => by
    simp only [List.map_cons, idx] at e
    by_cases c : f = g
    · rw [if_pos c] at e
      cases e
      simp only [List.map_cons, List.getElem?_cons_zero, Option.some.injEq] at h
      subst c; subst h
      simp [List.lookup]
    · rw [if_neg c] at e
      obtain ⟨j, e2, rfl⟩ := Option.map_eq_some_iff.1 e
      have c' : (f == g) = false := by simpa using c
      simp only [List.map_cons, List.getElem?_cons_succ] at h
      simp only [List.lookup, c']
      exact idx_lookup e2 h
end
end DL
set_option maxRecDepth 100000
set_option maxHeartbeats 1000000
namespace DL
open PySem L2
structure DEnds where
  nx : Rho → Pd
  rt : PV → Pd
  bk : Rho → Pd
  ct : Rho → Pd
abbrev DSt := DEnds → Rho → Pd
structure DEnds.le (D D' : DEnds) : Prop where
  nx : ∀ ρ n, D.nx ρ n → D'.nx ρ n
  rt : ∀ p n, D.rt p n → D'.rt p n
  bk : ∀ ρ n, D.bk ρ n → D'.bk ρ n
  ct : ∀ ρ n, D.ct ρ n → D'.ct ρ n
theorem DEnds.le.refl (D : DEnds) : D.le D := ⟨fun _ _ h => h, fun _ _ h => h, fun _ _ h => h, fun _ _ h => h⟩
def MonoS (t : DSt) : Prop := ∀ D D' ρ n, DEnds.le D D' → t D ρ n → t D' ρ n
def upE (Z : Cz) (K : PySem.W.Frag) (W : Wd) (D : Ends) : DEnds where
  nx := fun ρ' n => ∀ W' σ' H', Wle W W' → W'.c = n → SR Z.P K Z.H0 Z.W0 W' σ' H' ρ' → D.nx σ' H'
  rt := fun p n => ∀ v W' H', Wle W W' → W'.c = n → Fr0 Z.P K Z.H0 Z.W0 W' H' → Rep Z.P K W' p v → D.rt v H'
  bk := fun ρ' n => ∀ W' σ' H', Wle W W' → W'.c = n → SR Z.P K Z.H0 Z.W0 W' σ' H' ρ' → D.bk σ' H'
  ct := fun ρ' n => ∀ W' σ' H', Wle W W' → W'.c = n → SR Z.P K Z.H0 Z.W0 W' σ' H' ρ' → D.ct σ' H'
theorem upE_le {Z : Cz} {K : PySem.W.Frag} {W W' : Wd} {D : Ends} (h : Wle W W') : (upE Z K W D).le (upE Z K W' D) :=
  ⟨fun ρ n q W1 σ1 H1 l c s => q W1 σ1 H1 (h.trans l) c s, fun p n q v W1 H1 l c f r => q v W1 H1 (h.trans l) c f r, fun ρ n q W1 σ1 H1 l c s => q W1 σ1 H1 (h.trans l) c s, fun ρ n q W1 σ1 H1 l c s => q W1 σ1 H1 (h.trans l) c s⟩
def liftS (Z : Cz) (K : PySem.W.Frag) (t : DSt) : TS := fun D σ H => ∃ W ρ, SR Z.P K Z.H0 Z.W0 W σ H ρ ∧ t (upE Z K W D) ρ W.c
structure DS (Z : Cz) (X : Cx) (st : Stmt) (t : DSt) : Prop where
  mono : MonoS t
  run : PS X st (liftS Z X.K t)
structure DSs (Z : Cz) (X : Cx) (st : List Stmt) (t : DSt) : Prop where
  mono : MonoS t
  run : PSs X st (liftS Z X.K t)
def exK (Z : Cz) (K : PySem.W.Frag) (Ex : PX → Pd) : XK := fun cls d H' => ∃ x W', Ex x W'.c ∧ Fr0 Z.P K Z.H0 Z.W0 W' H' ∧ RepX Z.P K W' H' x cls d
structure DX (Z : Cz) (X : Cx) (Ex : PX → Pd) : Prop where
  hx : Passes (L2.CX X.prog X.w) X (exK Z X.K Ex)
  tk : Takes X (fun cls d _ H' => exK Z X.K Ex cls d H')
  po : PassesOwn (model X.prog X.w) X.A X.env X.xe
  calm : X.calm = true
section
variable {Z : Cz} {X : Cx} {P : Par} {K : PySem.W.Frag} {W : Wd} {H : Hp} {e a b o : Expr} {es : List Expr} {st : Stmt} {rest body : List Stmt} {pos p apos cpos p2 : Pos} {ta tb te : DT} {tc : DB} {t u : DSt} {Ex : PX → Pd} {H0 : Hp} {W0 : Wd} {σ : L2.St} {ρ : Rho}
theorem get_set_eq {α : Type} {l : List α} {i : Nat} {x y : α} (h : (l.set i x)[i]? = some y) : y = x ∧ i < l.length := by
  have hl : i < (l.set i x).length := (List.getElem?_eq_some_iff.mp h).1
  rw [List.length_set] at hl
  rw [List.getElem?_set_self hl] at h
  exact ⟨(Option.some.inj h).symm, hl⟩
theorem SR.setFz {i : Nat} {p : PV} {v : V} (S : SR P K H0 W0 W σ H ρ) (r : Rep P K W p v) : SR P K H0 W0 W (σ.set i (some v)) H (ρ.set i (.fz p)) := by
  refine ⟨S.fr, by rw [List.length_set, List.length_set]; exact S.len, fun j s h => ?_, fun j k s t a hj hk oj ok ej ek => ?_⟩
  · by_cases c : i = j
    · subst c
      obtain ⟨e, hl⟩ := get_set_eq h
      subst e
      exact ⟨v, by rw [List.getElem?_set_self (by rw [S.len]; exact hl)], r⟩
    · rw [List.getElem?_set_ne c] at h ⊢
      exact S.slots j s h
  · have nj : i ≠ j := fun c => by
      subst c
      obtain ⟨e, _⟩ := get_set_eq hj
      subst e; cases oj
    have nk : i ≠ k := fun c => by
      subst c
      obtain ⟨e, _⟩ := get_set_eq hk
      subst e; cases ok
    rw [List.getElem?_set_ne nj] at hj ej
    rw [List.getElem?_set_ne nk] at hk ek
    exact S.dist j k s t a hj hk oj ok ej ek
theorem SR.setOwn {i : Nat} {a : Addr} {xs : List PV} {ys : List V} (S : SR P K H0 W0 W σ H ρ) (h : H a = some (.lst ys)) (r : RepL P K W xs ys) (x : OwnA H0 W a)
    (n : ∀ (j : Nat) (s : Slot), ρ[j]? = some s → s.isOwn = true → σ[j]? ≠ some (some (.ref a))) : SR P K H0 W0 W (σ.set i (some (.ref a))) H (ρ.set i (.own xs)) := by
  refine ⟨S.fr, by rw [List.length_set, List.length_set]; exact S.len, fun j s h => ?_, fun j k s t b hj hk oj ok ej ek => ?_⟩
  · by_cases c : i = j
    · subst c
      obtain ⟨e, hl⟩ := get_set_eq h
      subst e
      exact ⟨a, ys, by rw [List.getElem?_set_self (by rw [S.len]; exact hl)], by assumption, r, x⟩
    · rw [List.getElem?_set_ne c] at h ⊢
      exact S.slots j s h
  · by_cases cj : i = j
    · subst cj
      by_cases ck : i = k
      · exact ck
      · rw [List.getElem?_set_ne ck] at hk ek
        obtain ⟨e, _⟩ := get_set_eq ej
        rw [Option.some.inj e] at ek
        exact absurd ek (n k t hk ok)
    · rw [List.getElem?_set_ne cj] at hj ej
      by_cases ck : i = k
      · subst ck
        obtain ⟨e, _⟩ := get_set_eq ek
        rw [Option.some.inj e] at ej
        exact absurd ej (n j s hj oj)
      · rw [List.getElem?_set_ne ck] at hk ek
        exact S.dist j k s t b hj hk oj ok ej ek
theorem SR.mut {i : Nat} {a : Addr} {o' : HO} {s s' : Slot} (S : SR P K H0 W0 W σ H ρ) (hi : ρ[i]? = some s) (ho : s.isOwn = true) (ha : σ[i]? = some (some (.ref a))) (x : OwnA H0 W a)
    (r : RepS P K H0 W (upd H a o') s' (some (some (.ref a)))) : SR P K H0 W0 W σ (upd H a o') (ρ.set i s') := by
  obtain ⟨x1, x2, x3⟩ := x
  refine ⟨⟨S.fr.le, fun b u h => ?_, fun b u h n => ?_, S.fr.freshF, S.fr.freshB, fun b k h => ?_, fun ev => ⟨(S.fr.bx ev).1, fun b k h hk => ⟨((S.fr.bx ev).2 b k h hk).1, by rw [upd_ne (fun c => by rw [c, x3] at h; cases h)]; exact ((S.fr.bx ev).2 b k h hk).2⟩⟩⟩, by rw [List.length_set]; exact S.len, fun j t h => ?_, fun j k t t' b hj hk oj ok ej ek => ?_⟩
  · rw [upd_ne (ne_of_none h x2)]; exact S.fr.sub b u h
  · rw [upd_ne (ne_of_none h x1)]; exact S.fr.keep b u h n
  · obtain ⟨h1, u, h2, h3⟩ := S.fr.box b k h
    have nb : b ≠ a := fun c => by rw [c, x3] at h; cases h
    exact ⟨h1, u, by rw [upd_ne nb]; exact h2, h3⟩
  · by_cases c : i = j
    · subst c
      obtain ⟨e, _⟩ := get_set_eq h
      rw [e, ha]; exact r
    · rw [List.getElem?_set_ne c] at h
      have q := S.slots j t h
      cases t with
      | no => trivial
      | fz p => exact q
      | own xs =>
        obtain ⟨b, ys, e, hb, rl, xb⟩ := q
        have nb : b ≠ a := fun z => c (S.dist i j s _ a hi h ho rfl ha (by rw [e, z]))
        exact ⟨b, ys, e, by rw [upd_ne nb]; exact hb, rl, xb⟩
      | slf b cc vs =>
        obtain ⟨dx, gs, e, hb, rest⟩ := q
        have nb : b ≠ a := fun z => c (S.dist i j s _ a hi h ho rfl ha (by rw [e, z]))
        exact ⟨dx, gs, e, by rw [upd_ne nb]; exact hb, rest⟩
      | exc b cls d x =>
        obtain ⟨e, r⟩ := q
        refine ⟨e, r.upd fun dd gs hx hz => ?_⟩
        have hs := S.slots i s hi
        cases s with
        | own zs => obtain ⟨a', ys, e', ha', _⟩ := hs; rw [ha] at e'; cases e'; rw [hz] at hx; rw [hx] at ha'; cases ha'
        | slf a' c' zs => obtain ⟨dx, gs', e', ha', _⟩ := hs; rw [ha] at e'; cases e'; rw [hz] at hx; rw [hx] at ha'; cases ha'
        | _ => cases ho
  · have old : ∀ (j : Nat) (t : Slot), (ρ.set i s')[j]? = some t → t.isOwn = true → ∃ t0, ρ[j]? = some t0 ∧ t0.isOwn = true := fun j t h h2 => by
      by_cases c : i = j
      · subst c; exact ⟨s, hi, ho⟩
      · rw [List.getElem?_set_ne c] at h; exact ⟨t, h, h2⟩
    obtain ⟨t0, h0, o0⟩ := old j t hj oj
    obtain ⟨t1, h1, o1⟩ := old k t' hk ok
    exact S.dist j k t0 t1 b h0 h1 o0 o1 ej ek
theorem SR.freeze {i : Nat} {xs : List PV} (S : SR P K H0 W0 W σ H ρ) (hi : ρ[i]? = some (.own xs)) : ∃ W', Wle W W' ∧ W'.B = W.B ∧ W'.c = W.c ∧ SR P K H0 W0 W' σ H (ρ.set i (.fz (.lst xs))) := by
  obtain ⟨a, ys, e, ha, r, x1, x2, x3⟩ := S.slots i _ hi
  have le : Wle W (W.add a (.lst ys)) := Wle.add x2
  refine ⟨W.add a (.lst ys), le, rfl, rfl, ⟨S.fr.le.trans le, fun b u h => ?_, S.fr.keep, fun b u h => ?_, S.fr.freshB, fun b k h => ?_, S.fr.bx⟩, by rw [List.length_set]; exact S.len, fun j t h => ?_, fun j k t t' b hj hk oj ok ej ek => ?_⟩
  · have h' : upd W.F a (.lst ys) b = some u := h
    by_cases c : b = a
    · subst c; rw [upd_same] at h'; rw [← h']; exact ha
    · rw [upd_ne c] at h'; exact S.fr.sub b u h'
  · have h' : upd W.F a (.lst ys) b = some u := h
    by_cases c : b = a
    · subst c; exact .inr x1
    · rw [upd_ne c] at h'; exact S.fr.freshF b u h'
  · obtain ⟨h1, u, h2, h3⟩ := S.fr.box b k h
    have nb : b ≠ a := fun c => by rw [c] at h; have h' : W.B a = some k := h; rw [x3] at h'; cases h'
    exact ⟨by show upd W.F a _ b = none; rw [upd_ne nb]; exact h1, u, h2, h3.mono le rfl⟩
  · by_cases c : i = j
    · subst c
      obtain ⟨e2, _⟩ := get_set_eq h
      subst e2
      exact ⟨.ref a, e, rep_lst.2 ⟨a, ys, rfl, add_same, RepL.mono le _ _ r⟩⟩
    · rw [List.getElem?_set_ne c] at h
      have q := S.slots j t h
      cases t with
      | no => trivial
      | fz p => obtain ⟨v, e, r⟩ := q; exact ⟨v, e, Rep.mono le _ _ r⟩
      | own zs =>
        obtain ⟨b, ws, e2, hb, rl, y1, y2, y3⟩ := q
        have nb : b ≠ a := fun z => c (S.dist i j _ _ a hi h rfl rfl e (by rw [e2, z]))
        exact ⟨b, ws, e2, hb, RepL.mono le _ _ rl, y1, by show upd W.F a _ b = none; rw [upd_ne nb]; exact y2, y3⟩
      | slf b cc vs =>
        obtain ⟨dx, gs, e2, hb, n, l, rl, y1, y2, y3⟩ := q
        have nb : b ≠ a := fun z => c (S.dist i j _ _ a hi h rfl rfl e (by rw [e2, z]))
        exact ⟨dx, gs, e2, hb, n, l, RepL.mono le _ _ rl, y1, by show upd W.F a _ b = none; rw [upd_ne nb]; exact y2, y3⟩
      | exc b cls d x =>
        obtain ⟨e2, r2⟩ := q
        exact ⟨e2, r2.mono le rfl⟩
  · have old : ∀ (j : Nat) (t : Slot), (ρ.set i (.fz (.lst xs)))[j]? = some t → t.isOwn = true → ρ[j]? = some t := fun j t h h2 => by
      by_cases c : i = j
      · subst c
        obtain ⟨e2, _⟩ := get_set_eq h
        subst e2; cases h2
      · rw [List.getElem?_set_ne c] at h; exact h
    exact S.dist j k t t' b (old j t hj oj) (old k t' hk ok) oj ok ej ek
def dNext : DSt := fun D ρ => D.nx ρ
def dSeq (t u : DSt) : DSt := fun D ρ => t { D with nx := u D } ρ
theorem dSeq_mono (h1 : MonoS t) (h2 : MonoS u) : MonoS (dSeq t u) := fun D D' ρ n l q =>
  h1 { D with nx := u D } { D' with nx := u D' } ρ n ⟨fun ρ n q => h2 D D' ρ n l q, l.rt, l.bk, l.ct⟩ q
theorem dss_nil : DSs Z X [] dNext := ⟨fun D D' ρ n l q => l.nx ρ n q, PSs.weak pss_nil fun D σ H q => by
  obtain ⟨W, ρ, S, q⟩ := q
  exact q W σ H (Wle.refl _) rfl S⟩
theorem dss_cons (h1 : DS Z X st t) (h2 : DSs Z X rest u) : DSs Z X (st :: rest) (dSeq t u) := by
  refine ⟨dSeq_mono h1.mono h2.mono, PSs.weak (pss_cons h1.run h2.run) fun D σ H q => ?_⟩
  obtain ⟨W, ρ, S, q⟩ := q
  refine ⟨W, ρ, S, h1.mono { upE Z X.K W D with nx := u (upE Z X.K W D) } _ ρ _ ⟨fun ρ' n q W' σ' H' l c s => ⟨W', ρ', s, h2.mono _ _ ρ' _ (upE_le l) (c ▸ q)⟩, fun _ _ h => h, fun _ _ h => h, fun _ _ h => h⟩ q⟩
def dFrz (i : Nat) (t : DSt) : DSt := fun D ρ n => match ρ[i]? with
  | some (.own xs) => t D (ρ.set i (.fz (.lst xs))) n
  | _ => t D ρ n
theorem dFrz_mono {i : Nat} (h : MonoS t) : MonoS (dFrz i t) := fun D D' ρ n l q => by
  unfold dFrz at q ⊢
  split at q <;> exact h D D' _ n l q
theorem lift_frz {i : Nat} (h : MonoS t) {D : Ends} (q : liftS Z K (dFrz i t) D σ H) : liftS Z K t D σ H := by
  obtain ⟨W, ρ, S, q⟩ := q
  unfold dFrz at q
  split at q
  · rename_i xs e
    obtain ⟨W', l, _, cc, S'⟩ := S.freeze e
    exact ⟨W', _, S', h _ _ _ _ (upE_le l) (cc.symm ▸ q)⟩
  · exact ⟨W, ρ, S, q⟩
theorem ds_frz (i : Nat) (h : DS Z X st t) : DS Z X st (dFrz i t) := ⟨dFrz_mono h.mono, PS.weak h.run fun _ _ _ q => lift_frz h.mono q⟩
def PV.scal : PV → Bool
  | .non => true
  | .bl _ => true
  | .int _ => true
  | .str _ => true
  | _ => false
theorem Rep.scal {p : PV} {v : V} {W W' : Wd} (h : p.scal = true) (r : Rep P K W p v) : Rep P K W' p v := by
  cases p <;> first | (simp [PV.scal] at h; done) | (simp only [Rep] at r ⊢; exact r)
def dPeekB (i : Nat) (t : DB) : DB := fun ρ Q n => match ρ[i]? with
  | some (.own xs) => t (ρ.set i (.fz (.lst xs))) (fun b m => m.v = n.v ∧ Q b m) n
  | _ => t ρ Q n
theorem Fr0.peek {W1 W' : Wd} {H' : Hp} (bo : BoxOk P K W H) (l : Wle W W1) (lb : W1.B = W.B) (lc : W1.c = W.c) (f : Fr0 P K H W1 W' H') (ev : W'.c.v = W.c.v) : Fr0 P K H W ⟨W.F, W'.B, W'.c, W'.inj, W'.bd⟩ H' := by
  obtain ⟨es, eb⟩ := f.bx (by rw [lc]; exact ev)
  have le0 : Wle W ⟨W.F, W'.B, W'.c, W'.inj, W'.bd⟩ := ⟨fun _ _ h => h, fun a k h => f.le.b a k (l.b a k h), Ck.le_trans l.c f.le.c⟩
  refine ⟨le0, fun a o h => f.sub a o (f.le.f a o (l.f a o h)), fun a o h n => f.keep a o h (by rw [lb]; exact n), fun a o h => .inl h, fun a k h => ?_, fun a k h => ?_, fun _ => ⟨by rw [← lc]; exact es, fun a k h hk => by rw [← lb]; exact eb a k h hk⟩⟩
  · rcases f.freshB a k h with z | z
    · exact .inl (by rw [← lb]; exact z)
    · exact .inr z
  · obtain ⟨h1, o, h2, h3⟩ := f.box a k h
    refine ⟨?_, o, h2, ?_⟩
    rotate_left
    · rcases h3 with h3 | ⟨hk, ob, e, h3⟩
      · exact .inl h3
      · obtain ⟨g1, g2⟩ := eb a k h hk
        rw [lb] at g1
        obtain ⟨_, o', g3, g4⟩ := bo a k g1
        rw [h2, g3] at g2
        cases g2
        rcases g4 with g4 | ⟨_, ob', e', g4⟩
        · omega
        · refine .inr ⟨hk, ob', ?_, g4.mono le0⟩
          show W'.c.st k = _
          rw [es, lc]; exact e'
    cases e : W.F a with
    | none => rfl
    | some u => rw [f.le.f a u (l.f a u e)] at h1; cases h1
theorem dt_peek {tb : DB} (i : Nat) (h : DTs Z X e tb) : DTs Z X e (dPeekB i tb) := by
  refine ⟨fun ρ Q Q' n hq q => ?_, PT.weak h.run fun σ H Q q => ?_⟩
  · unfold dPeekB at q ⊢
    split at q
    · exact h.mono _ _ _ _ (fun p n q => ⟨q.1, hq _ _ q.2⟩) q
    · exact h.mono _ _ _ _ hq q
  · obtain ⟨W, ρ, S, q⟩ := q
    unfold dPeekB at q
    split at q
    · rename_i xs e
      obtain ⟨W1, l, lb, cc, S1⟩ := S.freeze e
      refine ⟨W1, _, S1, h.mono _ _ _ _ (fun p n q W2 H2 f2 c2 => q.2 _ H2 (f2.peek S.box l lb cc (by rw [c2, ← cc]; exact q.1)) c2) (cc.symm ▸ q)⟩
    · exact ⟨W, ρ, S, q⟩
end
end DL
set_option maxRecDepth 100000
set_option maxHeartbeats 1000000
namespace DL
open PySem L2
section
variable {Z : Cz} {X : Cx} {P : Par} {K : PySem.W.Frag} {W : Wd} {H : Hp} {e a b o : Expr} {es : List Expr} {st : Stmt} {rest body : List Stmt} {pos p apos cpos p2 : Pos} {ta tb te : DT} {tc : DB} {t u : DSt} {Ex : PX → Pd} {H0 : Hp} {W0 : Wd} {σ : L2.St} {ρ : Rho}
abbrev DTg := PV → Rho → (Rho → Pd) → Pd
abbrev DTgs := List PV → Rho → (Rho → Pd) → Pd
def MonoG (g : DTg) : Prop := ∀ p ρ (Q Q' : Rho → Pd) n, (∀ r n, Q r n → Q' r n) → g p ρ Q n → g p ρ Q' n
def MonoGs (g : DTgs) : Prop := ∀ p ρ (Q Q' : Rho → Pd) n, (∀ r n, Q r n → Q' r n) → g p ρ Q n → g p ρ Q' n
def liftG (Z : Cz) (K : PySem.W.Frag) (g : DTg) : TG := fun v σ H Q => ∃ W ρ p, SR Z.P K Z.H0 Z.W0 W σ H ρ ∧ Rep Z.P K W p v ∧ g p ρ (fun ρ' n => ∀ W' σ' H', Wle W W' → W'.c = n → SR Z.P K Z.H0 Z.W0 W' σ' H' ρ' → Q σ' H') W.c
structure DG (Z : Cz) (X : Cx) (tg : Expr) (g : DTg) : Prop where
  mono : MonoG g
  run : PG X tg (liftG Z X.K g)
structure DGs (Z : Cz) (X : Cx) (tg : List Expr) (g : DTgs) : Prop where
  mono : MonoGs g
  run : PGs X tg fun vs σ H Q => ∃ W ρ ps, SR Z.P X.K Z.H0 Z.W0 W σ H ρ ∧ RepL Z.P X.K W ps vs ∧ g ps ρ (fun ρ' n => ∀ W' σ' H', Wle W W' → W'.c = n → SR Z.P X.K Z.H0 Z.W0 W' σ' H' ρ' → Q σ' H') W.c
theorem PG.weak {tg : Expr} {g g' : TG} (h : PG X tg g) (w : ∀ v σ H Q, g' v σ H Q → g v σ H Q) : PG X tg g' := ⟨fun pins s σ H v u Q I r q => h.run pins s σ H v u Q I r (w v σ H Q q)⟩
theorem PGs.weak {tg : List Expr} {g g' : TGs} (h : PGs X tg g) (w : ∀ v σ H Q, g' v σ H Q → g v σ H Q) : PGs X tg g' := ⟨fun pins s σ H v u Q I r q => h.run pins s σ H v u Q I r (w v σ H Q q)⟩
def Agree (vs : List Nat) (σ σ' : L2.St) : Prop := σ'.length = σ.length ∧ ∀ i, i ∉ vs → σ'[i]? = σ[i]?
theorem Agree.refl (vs : List Nat) (σ : L2.St) : Agree vs σ σ := ⟨rfl, fun _ _ => rfl⟩
theorem Agree.trans {vs : List Nat} {σ σ1 σ2 : L2.St} (a : Agree vs σ σ1) (b : Agree vs σ1 σ2) : Agree vs σ σ2 := ⟨b.1.trans a.1, fun i h => (b.2 i h).trans (a.2 i h)⟩
def Trp (Z : Cz) (K : PySem.W.Frag) (W : Wd) (σ : L2.St) (ρ : Rho) (σ' : L2.St) (ρ' : Rho) : Prop := ∀ W' H', Wle W W' → SR Z.P K Z.H0 Z.W0 W' σ H' ρ → SR Z.P K Z.H0 Z.W0 W' σ' H' ρ'
def liftGn (Z : Cz) (K : PySem.W.Frag) (vs : List Nat) (g : DTg) : TG := fun v σ H Q => ∃ W ρ p, SR Z.P K Z.H0 Z.W0 W σ H ρ ∧ Rep Z.P K W p v ∧ g p ρ (fun ρ' n => W.c = n → ∀ σ', Trp Z K W σ ρ σ' ρ' → Agree vs σ σ' → Q σ' H) W.c
def liftGns (Z : Cz) (K : PySem.W.Frag) (vs : List Nat) (g : DTgs) : TGs := fun us σ H Q => ∃ W ρ ps, SR Z.P K Z.H0 Z.W0 W σ H ρ ∧ RepL Z.P K W ps us ∧ g ps ρ (fun ρ' n => W.c = n → ∀ σ', Trp Z K W σ ρ σ' ρ' → Agree vs σ σ' → Q σ' H) W.c
structure DGn (Z : Cz) (X : Cx) (tg : Expr) (vs : List Nat) (g : DTg) : Prop where
  mono : MonoG g
  run : PG X tg (liftGn Z X.K vs g)
structure DGns (Z : Cz) (X : Cx) (tg : List Expr) (vs : List Nat) (g : DTgs) : Prop where
  mono : MonoGs g
  run : PGs X tg (liftGns Z X.K vs g)
theorem DGn.g {tg : Expr} {vs : List Nat} {g : DTg} (h : DGn Z X tg vs g) : DG Z X tg g := ⟨h.mono, PG.weak h.run fun v σ H Q q => by
  obtain ⟨W, ρ, p, S, r, q⟩ := q
  exact ⟨W, ρ, p, S, r, h.mono p ρ _ _ _ (fun ρ' n q cc σ' T _ => q W σ' H (Wle.refl _) cc (T W H (Wle.refl _) S)) q⟩⟩
def dNm (i : Nat) : DTg := fun p ρ Q => Q (ρ.set i (.fz p))
theorem dn_name (i : Nat) {vs : List Nat} {x : Str} (hN : X.N.Nodup) (hv : i ∈ vs := by decide) (hi : X.N[i]? = some x := by rfl) (hx : Loc X.env.scope x := by first | exact Or.inl rfl | exact Or.inr rfl) (hf : X.fn x = true ∨ X.env.scope.names.lookup x = some .local := by first | exact .inl rfl | exact .inr rfl) : DGn Z X (.Name x pos) vs (dNm i) :=
  ⟨fun p ρ Q Q' n hq q => hq _ _ q, PG.weak (pg_name hN hi hx hf) fun v σ H Q q => by
    obtain ⟨W, ρ, p, S, r, q⟩ := q
    exact q rfl _ (fun W' H' l S' => S'.setFz (Rep.mono l _ _ r)) ⟨List.length_set, fun j hj => List.getElem?_set_ne (fun (z : i = j) => hj (z ▸ hv))⟩⟩
theorem dg_name (i : Nat) {x : Str} (hN : X.N.Nodup) (hi : X.N[i]? = some x := by rfl) (hx : Loc X.env.scope x := by first | exact Or.inl rfl | exact Or.inr rfl) (hf : X.fn x = true ∨ X.env.scope.names.lookup x = some .local := by first | exact .inl rfl | exact .inr rfl) : DG Z X (.Name x pos) (dNm i) := (dn_name (vs := [i]) i hN (by simp) hi hx hf).g
def dGNil : DTgs := fun ps ρ Q n => ps = [] ∧ Q ρ n
def dGCons (g : DTg) (h : DTgs) : DTgs := fun ps ρ Q n => match ps with
  | p :: qs => g p ρ (fun ρ' => h qs ρ' Q) n
  | [] => False
theorem dns_nil {vs : List Nat} : DGns Z X [] vs dGNil := ⟨fun p ρ Q Q' n hq q => ⟨q.1, hq _ _ q.2⟩, PGs.weak pgs_nil fun v σ H Q q => by
  obtain ⟨W, ρ, ps, S, r, e, q⟩ := q
  subst e
  simp only [RepL] at r
  exact ⟨r, q rfl σ (fun _ _ _ S' => S') (Agree.refl _ _)⟩⟩
theorem dns_cons {vs : List Nat} {g : DTg} {h : DTgs} (h1 : DGn Z X e vs g) (h2 : DGns Z X es vs h) (hs : (assignEach (e :: es) X.env).map (·.2) = assign e X.env :: (assignEach es X.env).map (·.2) := by rfl) : DGns Z X (e :: es) vs (dGCons g h) := by
  refine ⟨fun p ρ Q Q' n hq q => by
    cases p with
    | nil => exact q.elim
    | cons p qs => exact h1.mono p ρ _ _ n (fun r n q => h2.mono qs r _ _ n hq q) q, PGs.weak (pgs_cons h1.run h2.run hs) fun v σ H Q q => ?_⟩
  obtain ⟨W, ρ, ps, S, r, q⟩ := q
  obtain ⟨p, qs, rfl⟩ : ∃ p qs, ps = p :: qs := by cases ps with
    | nil => exact q.elim
    | cons p qs => exact ⟨p, qs, rfl⟩
  simp only [RepL] at r
  obtain ⟨y, zs, rfl, ra, rb⟩ := r
  refine ⟨y, zs, rfl, W, ρ, p, S, ra, h1.mono p ρ _ _ _ (fun ρ' n q cc σ' T ag => ?_) q⟩
  subst cc
  exact ⟨W, ρ', qs, T W H (Wle.refl _) S, rb, h2.mono qs ρ' _ _ _ (fun ρ2 n q cc σ2 T2 ag2 => q cc σ2 (fun W' H' l S' => T2 W' H' l (T W' H' l S')) (ag.trans ag2)) q⟩
def dGTup (k : Nat) (g : DTgs) : DTg := fun p ρ Q n => match p with
  | .tup xs => xs.length = k ∧ g xs ρ Q n
  | _ => False
theorem dn_tup {vs : List Nat} {n : Nat} {g : DTgs} {k : Nat} (hc : X.calm = true) (h : DGns Z X es vs g) (hn : (assignEach es X.env).length = n := by rfl) (hst : (assignEach es X.env).findIdx? (·.1) = none := by rfl) : DGn Z X (.Tuple es k pos) vs (dGTup n g) := by
  refine ⟨fun p ρ Q Q' n hq q => by cases p <;> first | exact q.elim | exact ⟨q.1, h.mono _ ρ _ _ n hq q.2⟩, PG.weak (pg_tup hc h.run hn hst) fun v σ H Q q => ?_⟩
  obtain ⟨W, ρ, p, S, r, q⟩ := q
  obtain ⟨xs, rfl⟩ : ∃ xs, p = .tup xs := by cases p <;> first | exact q.elim | exact ⟨_, rfl⟩
  obtain ⟨hl, q⟩ := q
  rw [rep_tup] at r
  obtain ⟨a, ys, rfl, h1, l⟩ := r
  exact ⟨a, ys, rfl, sqT_same S.same h1, by rw [← l.length]; exact hl, W, ρ, xs, S, l, q⟩
def dGLst (k : Nat) (g : DTgs) : DTg := fun p ρ Q n => match p with
  | .lst xs => xs.length = k ∧ g xs ρ Q n
  | _ => False
def dAsg (te : DT) (g : DTg) : DSt := fun D ρ => te ρ fun p => g p ρ D.nx
theorem dAsg_mono {g : DTg} (h : MonoT te) (hg : MonoG g) : MonoS (dAsg te g) := fun D D' ρ n l q => h ρ _ _ n (fun p n q => hg p ρ _ _ n l.nx q) q
theorem lift_asg {g : DTg} {g' : TG} (h : MonoT te) (hg : MonoG g)
    (w : ∀ v σ H Q, (∃ W ρ p, SR Z.P K Z.H0 Z.W0 W σ H ρ ∧ Rep Z.P K W p v ∧ g p ρ (fun ρ' n => ∀ W' σ' H', Wle W W' → W'.c = n → SR Z.P K Z.H0 Z.W0 W' σ' H' ρ' → Q σ' H') W.c) → g' v σ H Q) {D : Ends} (q : liftS Z K (dAsg te g) D σ H) :
    tAsg (liftE Z.P K Z.H0 Z.W0 te) g' D σ H := by
  obtain ⟨W, ρ, S, q⟩ := q
  refine ⟨W, ρ, S, h ρ _ _ _ (fun p n q v W1 H1 f1 c1 r1 => ?_) q⟩
  exact w _ _ _ _ ⟨W1, ρ, p, S.step f1, r1, hg p ρ _ _ _ (fun ρ' n q W' σ' H' l cc S' => q W' σ' H' (f1.le.trans l) cc S') (c1 ▸ q)⟩
theorem ds_set (i : Nat) {x : Str} {pos' : Pos} (hN : X.N.Nodup) (he : DE Z X e te) (hi : X.N[i]? = some x := by rfl) (hx : Loc X.env.scope x := by first | exact Or.inl rfl | exact Or.inr rfl) (hs : swapsWith e (some (.Name x pos')) pos.line X.env = pure false := by rfl)
    (hf : X.fn x = true ∨ X.env.scope.names.lookup x = some .local := by first | exact .inl rfl | exact .inr rfl) : DS Z X (.Assign [.Name x pos'] e pos) (dAsg te (dNm i)) :=
  ⟨dAsg_mono he.mono (fun p ρ Q Q' n hq q => hq _ _ q), PS.weak (ps_set hN hi hx he.run hs hf) fun _ _ _ q => lift_asg (g := dNm i) he.mono (fun p ρ Q Q' n hq q => hq _ _ q) (fun v σ H Q q => by
    obtain ⟨W, ρ, p, S, r, q⟩ := q
    exact q W _ H (Wle.refl _) rfl (S.setFz r)) q⟩
def dPar (i j : Nat) (ta : DA) : DSt := fun D ρ => ta ρ fun ps n => match ps with
  | [p, q] => D.nx ((ρ.set i (.fz p)).set j (.fz q)) n
  | _ => False
theorem ds_par (i j : Nat) {x y : Str} {ta : DA} {px py pt : Pos} {kt k2 pt2} (D : DX Z X Ex) (hN : X.N.Nodup) (hi : X.N[i]? = some x) (hj : X.N[j]? = some y) (hij : i ≠ j)
    (hx : X.env.scope.names.lookup x = some .local) (hy : X.env.scope.names.lookup y = some .local) (ha : DAs Z X [a, b] ta)
    (hp : PS X (.Assign [.Tuple [.Name x px, .Name y py] kt pt] (.Tuple [a, b] k2 pt2) pos) (tPar i j (liftA Z.P X.K Z.H0 Z.W0 ta))) :
    DS Z X (.Assign [.Tuple [.Name x px, .Name y py] kt pt] (.Tuple [a, b] k2 pt2) pos) (dPar i j ta) := by
  refine ⟨fun D D' ρ n l q => ha.mono ρ _ _ n (fun ps n q => ?_) q, PS.weak hp fun D σ H q => ?_⟩
  · match ps, q with
    | [p, r], q => exact l.nx _ _ q
  · obtain ⟨W, ρ, S, q⟩ := q
    refine ⟨W, ρ, S, ha.mono ρ _ _ _ (fun ps n q vs W1 H1 f1 c1 r1 => ?_) q⟩
    match ps, r1, q with
    | [p, r], r1, q =>
      obtain ⟨v, w, rfl, ra, rb⟩ := r1.two
      exact ⟨v, w, rfl, q W1 _ H1 f1.le c1 (((S.step f1).setFz ra).setFz rb)⟩
def dAug (i : Nat) (te : DT) (g : G2) : DSt := fun D ρ n => match ρ[i]? with
  | some (.fz x) => te ρ (fun y => g x y fun z => D.nx (ρ.set i (.fz z))) n
  | _ => False
theorem ds_aug (i : Nat) {x : Str} {op : Operator} {g : G2} {pos' : Pos} (hN : X.N.Nodup) (ho : DOp Z X (inplaceOp op) g) (he : DE Z X e te) (hi : X.N[i]? = some x := by rfl) (hx : Loc X.env.scope x := by first | exact Or.inl rfl | exact Or.inr rfl)
    (hf : X.fn x = true ∨ X.env.scope.names.lookup x = some .local := by first | exact .inl rfl | exact .inr rfl) : DS Z X (.AugAssign (.Name x pos') op e pos) (dAug i te g) := by
  have hp : PIp X op (r2Of Z.P X.K g) := fun pins s σ H x y v u Q I rx ry q => ho.run pins s σ H x y v u Q I rx ry q
  refine ⟨fun D D' ρ n l q => ?_, PS.weak (ps_aug hN hi hx he.run hp hf) fun D σ H q => ?_⟩
  · unfold dAug at q ⊢
    split at q
    · exact he.mono ρ _ _ _ (fun y n q => ho.mono _ y _ _ _ (fun z n q => l.nx _ _ q) q) q
    · exact q.elim
  · obtain ⟨W, ρ, S, q⟩ := q
    unfold dAug at q
    split at q
    · rename_i p e
      obtain ⟨v, ev, rv⟩ := S.slots i _ e
      refine ⟨v, ev, W, ρ, S, he.mono ρ _ _ _ (fun y n q w W1 H1 f1 c1 r1 => ?_) q⟩
      refine ⟨W1, p, y, f1.sub, f1.box, Rep.mono f1.le _ _ rv, r1, ho.mono _ y _ _ _ (fun z n q u W2 H2 f2 c2 r2 => ?_) (c1 ▸ q)⟩
      exact q W2 _ H2 (f1.le.trans f2.le) c2 (((S.step f1).step f2).setFz r2)
    · exact q.elim
def dDrop (te : DT) : DSt := fun D ρ => te ρ fun _ => D.nx ρ
theorem ds_expr (he : DE Z X e te) (hs : swapsWith e none pos.line X.env = pure false := by rfl) : DS Z X (.Expr e pos) (dDrop te) := by
  refine ⟨fun D D' ρ n l q => he.mono ρ _ _ n (fun p n q => l.nx _ _ q) q, PS.weak (ps_expr he.run hs) fun D σ H q => ?_⟩
  obtain ⟨W, ρ, S, q⟩ := q
  exact ⟨W, ρ, S, he.mono ρ _ _ _ (fun p n q v W1 H1 f1 c1 r1 => q W1 σ H1 f1.le c1 (S.step f1)) q⟩
def dRet (te : DT) : DSt := fun D ρ => te ρ D.rt
theorem ds_ret (he : DE Z X e te) : DS Z X (.Return (some e) pos) (dRet te) := by
  refine ⟨fun D D' ρ n l q => he.mono ρ _ _ n l.rt q, PS.weak (ps_ret he.run) fun D σ H q => ?_⟩
  obtain ⟨W, ρ, S, q⟩ := q
  exact ⟨W, ρ, S, he.mono ρ _ _ _ (fun p n q v W1 H1 f1 c1 r1 => q v W1 H1 f1.le c1 (S.fr.trans f1) r1) q⟩
def dRetN : DSt := fun D _ => D.rt .non
def dBrk : DSt := fun D ρ => D.bk ρ
def dCnt : DSt := fun D ρ => D.ct ρ
def dIf (c : DB) (t u : DSt) : DSt := fun D ρ => c ρ fun b => if b = true then t D ρ else u D ρ
theorem ds_if {c : Expr} {p q : List Stmt} (hc : DTs Z X c tc) (ha : DSs Z X p t) (hb : DSs Z X q u) : DS Z X (.If c p q pos) (dIf tc t u) := by
  refine ⟨fun D D' ρ n l q => hc.mono ρ _ _ n (fun b n q => ?_) q, PS.weak (ps_if hc.run ha.run hb.run) fun D σ H q => ?_⟩
  · cases b with
    | true => rw [if_pos rfl] at q ⊢; exact ha.mono _ _ ρ _ l q
    | false => rw [if_neg Bool.false_ne_true] at q ⊢; exact hb.mono _ _ ρ _ l q
  · obtain ⟨W, ρ, S, q⟩ := q
    refine ⟨W, ρ, S, hc.mono ρ _ _ _ (fun b n q W1 H1 f1 c1 => ?_) q⟩
    cases b with
    | true => exact ⟨W1, ρ, S.step f1, ha.mono _ _ ρ _ (upE_le f1.le) (c1 ▸ q)⟩
    | false => exact ⟨W1, ρ, S.step f1, hb.mono _ _ ρ _ (upE_le f1.le) (c1 ▸ q)⟩
def dNever : DSt := fun _ _ _ => False
theorem dss_never : DSs Z X body dNever := ⟨fun _ _ _ _ _ q => q, PSs.weak pss_never fun D σ H q => let ⟨_, _, _, q⟩ := q; q⟩
end
end DL
set_option maxRecDepth 100000
set_option maxHeartbeats 1000000
namespace DL
open PySem L2
section
variable {Z : Cz} {X : Cx} {P : Par} {K : PySem.W.Frag} {W : Wd} {H : Hp} {e a b o : Expr} {es : List Expr} {st : Stmt} {rest body : List Stmt} {pos p apos cpos p2 : Pos} {ta tb te : DT} {tc : DB} {t u : DSt} {Ex : PX → Pd} {H0 : Hp} {W0 : Wd} {σ : L2.St} {ρ : Rho}
def dWhile (c : DB) (b : DSt) : DSt := fun D ρ n => ∃ I : Nat → Rho → Pd, (∃ m, I m ρ n) ∧ ∀ m ρ n, I m ρ n → c ρ (fun k => if k = true then
  b { nx := fun ρ' n => ∃ m', m' < m ∧ I m' ρ' n, ct := fun ρ' n => ∃ m', m' < m ∧ I m' ρ' n, bk := D.nx, rt := D.rt } ρ else D.nx ρ) n
theorem ds_while {c : Expr} {tb : DSt} (D : DX Z X Ex) (hc : DTs Z X c tc) (hb : DSs Z X body tb) : DS Z X (.While c body [] pos) (dWhile tc tb) := by
  refine ⟨fun D D' ρ n l q => ?_, PS.weak (ps_while D.po hc.run hb.run) fun D σ H q => ?_⟩
  · obtain ⟨I, i0, turn⟩ := q
    refine ⟨I, i0, fun m ρ n i => hc.mono ρ _ _ _ (fun k n q => ?_) (turn m ρ n i)⟩
    cases k with
    | true =>
      rw [if_pos rfl] at q ⊢
      exact hb.mono { nx := fun ρ' n => ∃ m', m' < m ∧ I m' ρ' n, ct := fun ρ' n => ∃ m', m' < m ∧ I m' ρ' n, bk := D.nx, rt := D.rt } _ ρ _ ⟨fun _ _ q => q, l.rt, l.nx, fun _ _ q => q⟩ q
    | false => rw [if_neg Bool.false_ne_true] at q ⊢; exact l.nx _ _ q
  · obtain ⟨W, ρ, S, I, ⟨m0, i0⟩, turn⟩ := q
    refine ⟨fun m σ' H' => ∃ W' ρ', Wle W W' ∧ SR Z.P X.K Z.H0 Z.W0 W' σ' H' ρ' ∧ I m ρ' W'.c, ⟨m0, W, ρ, Wle.refl _, S, i0⟩, fun m σ1 H1 ⟨W1, ρ1, l1, S1, i1⟩ => ?_⟩
    refine ⟨W1, ρ1, S1, hc.mono ρ1 _ _ _ (fun k n q W2 H2 f2 c2 => ?_) (turn m ρ1 _ i1)⟩
    subst c2
    cases k with
    | true =>
      rw [if_pos rfl] at q ⊢
      refine ⟨fun σ' H' => ∃ m', m' < m ∧ ∃ W' ρ', Wle W W' ∧ SR Z.P X.K Z.H0 Z.W0 W' σ' H' ρ' ∧ I m' ρ' W'.c, fun σ' H' h => h, W2, ρ1, S1.step f2, hb.mono { nx := fun ρ' n => ∃ m', m' < m ∧ I m' ρ' n, ct := fun ρ' n => ∃ m', m' < m ∧ I m' ρ' n, bk := (upE Z X.K W D).nx, rt := (upE Z X.K W D).rt } _ ρ1 _ ⟨fun ρ' n q W' σ' H' l cc S' => ?_, ?_, ?_, fun ρ' n q W' σ' H' l cc S' => ?_⟩ q⟩
      · obtain ⟨m', hm, i'⟩ := q
        exact ⟨m', hm, W', ρ', (l1.trans f2.le).trans l, S', cc ▸ i'⟩
      · exact fun p n q v W' H' l cc f r => q v W' H' ((l1.trans f2.le).trans l) cc f r
      · exact fun ρ' n q W' σ' H' l cc S' => q W' σ' H' ((l1.trans f2.le).trans l) cc S'
      · obtain ⟨m', hm, i'⟩ := q
        exact ⟨m', hm, W', ρ', (l1.trans f2.le).trans l, S', cc ▸ i'⟩
    | false =>
      rw [if_neg Bool.false_ne_true] at q ⊢
      exact q W2 σ1 H2 (l1.trans f2.le) rfl (S1.step f2)
def ItOk (P : Par) (K : PySem.W.Frag) (W : Wd) (J : It) (xs : List PV) : Prop := ∃ (G : Hp → Prop) (Y : Nat → Hp → V → Hp → Prop), Walk J xs.length G Y ∧ (∀ W' H', Wle W W' → Same W'.F H' → G H') ∧
  ∀ i x H1 H2 W', Wle W W' → Same W'.F H1 → BoxOk P K W' H1 → i < xs.length → Y i H1 x H2 → ∃ W2 p, xs[i]? = some p ∧ Fr0 P K H1 W' W2 H2 ∧ W2.c = W'.c ∧ Rep P K W2 p x
abbrev DIt := Rho → (List PV → Pd) → Pd
structure DI (Z : Cz) (X : Cx) (tg iter : Expr) (t : DIt) : Prop where
  mono : MonoT t
  run : PI X tg iter fun σ H R => ∃ W ρ, SR Z.P X.K Z.H0 Z.W0 W σ H ρ ∧ t ρ (fun xs n => ∀ J W' H', Fr0 Z.P X.K H W W' H' → W'.c = n → ItOk Z.P X.K W' J xs → R J H') W.c
theorem PI.weak {tg iter : Expr} {w w' : TI} (h : PI X tg iter w) (k : ∀ σ H R, w' σ H R → w σ H R) : PI X tg iter w' := ⟨fun pins s σ H R I q => h.run pins s σ H R I (k σ H R q)⟩
def dLoop (g : DTg) (b : DSt) (D : DEnds) : List PV → Rho → Pd
  | [], ρ => D.nx ρ
  | x :: xs, ρ => g x ρ fun ρ' => b { nx := dLoop g b D xs, ct := dLoop g b D xs, bk := D.nx, rt := D.rt } ρ'
theorem dLoop_mono {g : DTg} {b : DSt} (hg : MonoG g) (hb : MonoS b) {D D' : DEnds} (l : D.le D') : ∀ (xs : List PV) (ρ : Rho) (n : Ck), dLoop g b D xs ρ n → dLoop g b D' xs ρ n
  | [], ρ, n, q => l.nx ρ n q
  | x :: xs, ρ, n, q => hg x ρ _ _ n (fun ρ' n q => hb { nx := dLoop g b D xs, ct := dLoop g b D xs, bk := D.nx, rt := D.rt } _ ρ' n ⟨dLoop_mono hg hb l xs, l.rt, l.nx, dLoop_mono hg hb l xs⟩ q) q
def dFor (ti : DIt) (g : DTg) (b : DSt) : DSt := fun D ρ => ti ρ fun xs => dLoop g b D xs ρ
theorem drop_of {α : Type} {xs : List α} {i : Nat} {x : α} (h : xs[i]? = some x) : xs.drop i = x :: xs.drop (i + 1) := by
  obtain ⟨hi, e⟩ := List.getElem?_eq_some_iff.mp h
  rw [List.drop_eq_getElem_cons hi, e]
theorem ds_for {tg iter : Expr} {ti : DIt} {g : DTg} {tb : DSt} (D : DX Z X Ex) (hi : DI Z X tg iter ti) (hg : DG Z X tg g) (hb : DSs Z X body tb) (hs : ∀ x, foldedSetIterable iter X.env x = pure x := by intro _; rfl) :
    DS Z X (.For tg iter body [] pos) (dFor ti g tb) := by
  refine ⟨fun D D' ρ n l q => hi.mono ρ _ _ n (fun xs n q => dLoop_mono hg.mono hb.mono l xs ρ n q) q, PS.weak (ps_for D.po D.calm hi.run hg.run hb.run hs) fun D σ H q => ?_⟩
  obtain ⟨W, ρ, S, q⟩ := q
  refine ⟨W, ρ, S, hi.mono ρ _ _ _ (fun xs n q J W1 H1 f1 c1 it => ?_) q⟩
  subst c1
  obtain ⟨G, Y, wk, hG, hY⟩ := it
  refine for_it (g := liftG Z X.K g) (tb := liftS Z X.K tb) (D := D) wk (fun i σ' H' => ∃ W' ρ', Wle W1 W' ∧ SR Z.P X.K Z.H0 Z.W0 W' σ' H' ρ' ∧ dLoop g tb (upE Z X.K W1 D) (xs.drop i) ρ' W'.c) ⟨W1, ρ, Wle.refl _, S.step f1, ?_⟩ (fun i σ' H' _ ⟨W', ρ', l, S', _⟩ => hG W' H' l S'.same) ?_ ?_
  · rw [List.drop_zero]
    exact dLoop_mono hg.mono hb.mono (upE_le f1.le) xs ρ _ q
  · rintro i x σ' H' H2 hi ⟨W', ρ', l, S', q⟩ y
    obtain ⟨W2, p, e, f2, c2, r2⟩ := hY i x H' H2 W' l S'.same S'.box hi y
    rw [drop_of e] at q
    refine ⟨W2, ρ', p, S'.step f2, r2, hg.mono p ρ' _ _ _ (fun ρ3 n q W3 σ3 H3 l3 c3 S3 => ?_) (c2.symm ▸ q)⟩
    subst c3
    have l4 : Wle W1 W3 := (l.trans f2.le).trans l3
    refine ⟨W3, ρ3, S3, hb.mono { nx := dLoop g tb (upE Z X.K W1 D) (xs.drop (i + 1)), ct := dLoop g tb (upE Z X.K W1 D) (xs.drop (i + 1)), bk := (upE Z X.K W1 D).nx, rt := (upE Z X.K W1 D).rt } _ ρ3 _ ⟨fun ρ4 n q W4 σ4 H4 l5 c4 S4 => ⟨W4, ρ4, l4.trans l5, S4, c4 ▸ q⟩, fun p n q v W4 H4 l5 c4 f r => q v W4 H4 (l4.trans l5) c4 f r, fun ρ4 n q W4 σ4 H4 l5 c4 S4 => q W4 σ4 H4 (l4.trans l5) c4 S4, fun ρ4 n q W4 σ4 H4 l5 c4 S4 => ⟨W4, ρ4, l4.trans l5, S4, c4 ▸ q⟩⟩ q⟩
  · rintro σ' H' ⟨W', ρ', l, S', q⟩
    rw [List.drop_length] at q
    exact q W' σ' H' l rfl S'
end
end DL
set_option maxRecDepth 100000
set_option maxHeartbeats 1000000
namespace DL
open PySem L2
section
variable {Z : Cz} {X : Cx} {P : Par} {K : PySem.W.Frag} {W : Wd} {H : Hp} {e a b o : Expr} {es : List Expr} {st : Stmt} {rest body : List Stmt} {pos p apos cpos p2 : Pos} {ta tb te : DT} {tc : DB} {t u : DSt} {Ex : PX → Pd} {H0 : Hp} {W0 : Wd} {σ : L2.St} {ρ : Rho}
def dSeqI (te : DT) : DIt := fun ρ Q => te ρ fun p n => match p with
  | .lst xs => Q xs n
  | .scr xs => Q xs n
  | _ => False
def dTupI (te : DT) : DIt := fun ρ Q => te ρ fun p n => match p with
  | .tup xs => Q xs n
  | _ => False
theorem itok_at {J : It} {xs : List PV} {vs : List V} {G : Hp → Prop} {W : Wd} (l : RepL P K W xs vs) (wk : Walk J vs.length G (YAt vs)) (hG : ∀ W' H', Wle W W' → Same W'.F H' → G H') : ItOk P K W J xs := by
  refine ⟨G, YAt vs, by rw [l.length]; exact wk, hG, fun i x H1 H2 W' lw s b hi y => ?_⟩
  obtain ⟨rfl, e⟩ := y
  obtain ⟨p, e2, r⟩ := l.get' e
  exact ⟨W', p, e2, Fr0.refl s b, rfl, Rep.mono lw _ _ r⟩
theorem di_list {tg : Expr} (h : DE Z X e te) : DI Z X tg e (dSeqI te) := by
  refine ⟨fun ρ Q Q' n hq q => h.mono ρ _ _ n (fun p n q => by cases p <;> first | exact q.elim | exact hq _ _ q) q, PI.weak (pi_list h.run) fun σ H R q => ?_⟩
  obtain ⟨W, ρ, S, q⟩ := q
  refine ⟨W, ρ, S, h.mono ρ _ _ _ (fun p n q v W1 H1 f1 c1 r1 => ?_) q⟩
  cases p <;> first | exact q.elim | skip
  · rw [rep_lst] at r1
    obtain ⟨a, ys, rfl, h1, l⟩ := r1
    exact ⟨a, rfl, ⟨ys, SqL.of (f1.sub _ _ h1)⟩, q _ W1 H1 f1 c1 (itok_at l walk_list fun W' H' lw s => SqL.of (s _ _ (lw.f _ _ h1)))⟩
  · rw [rep_scr] at r1
    obtain ⟨a, ys, rfl, h1, l⟩ := r1
    exact ⟨a, rfl, ⟨ys, sqL_same f1.sub h1⟩, q _ W1 H1 f1 c1 (itok_at l walk_list fun W' H' lw s => sqL_same s (sqL_same lw.f h1))⟩
def rng (lo : Int) (n : Nat) : List PV := (List.range n).map fun i => .int (lo + (i : Nat))
theorem rng_length (lo : Int) (n : Nat) : (rng lo n).length = n := by unfold rng; rw [List.length_map, List.length_range]
theorem rng_get {lo : Int} {n i : Nat} (h : i < n) : (rng lo n)[i]? = some (.int (lo + (i : Nat))) := by
  unfold rng
  rw [List.getElem?_map, List.getElem?_range h]
  rfl
theorem itok_range {lo : Int} {n : Nat} {W : Wd} : ItOk P K W (Itr lo n) (rng lo n) := by
  refine ⟨fun _ => True, YFn fun i => .int (lo + i), by rw [rng_length]; exact walk_range, fun _ _ _ _ => trivial, fun i x H1 H2 W' lw s b hi y => ?_⟩
  obtain ⟨rfl, rfl⟩ := y
  rw [rng_length] at hi
  exact ⟨W', _, rng_get hi, Fr0.refl s b, rfl, rep_int.2 rfl⟩
def dRng2 (ta : DA) : DIt := fun ρ Q => ta ρ fun ps t => ∃ i j : Int, ps = [.int i, .int j] ∧ (-(2 ^ 62) ≤ i ∧ i < 2 ^ 62 ∧ -(2 ^ 62) ≤ j ∧ j < 2 ^ 62) ∧ Q (rng i (j - i).toNat) t
theorem di_range2 {ta : DA} {tg : Expr} (hm : X.mg "range" = none) (ha : DAs Z X [a, b] ta) (hg : Gl X "range" := by rfl) (hs : starEach [a, b] X.env = [(false, eval a X.env), (false, eval b X.env)] := by rfl) (hs2 : starEach [b] X.env = [(false, eval b X.env)] := by rfl) :
    DI Z X tg (.Call (.Name "range" p) [a, b] [] pos) (dRng2 ta) := by
  refine ⟨fun ρ Q Q' n hq q => ha.mono ρ _ _ n (fun ps n q => ?_) q, PI.weak (pi_range2 hg hm ha.run hs hs2) fun σ H R q => ?_⟩
  · obtain ⟨i, j, e, c, q⟩ := q
    exact ⟨i, j, e, c, hq _ _ q⟩
  · obtain ⟨W, ρ, S, q⟩ := q
    refine ⟨W, ρ, S, ha.mono ρ _ _ _ (fun ps n q vs W1 H1 f1 c1 r1 => ?_) q⟩
    obtain ⟨i, j, rfl, c, q⟩ := q
    obtain ⟨v, w, rfl, r, r'⟩ := r1.two
    rw [rep_int] at r r'
    subst r; subst r'
    exact ⟨i, j, rfl, c, q _ W1 H1 f1 c1 itok_range⟩
def enumP (xs : List PV) : List PV := xs.mapIdx fun i x => .tup [.int (i : Nat), x]
def zipP (xs ys : List PV) : List PV := (xs.zip ys).map fun p => .tup [p.1, p.2]
end
end DL
set_option maxRecDepth 100000
set_option maxHeartbeats 1000000
namespace DL
open PySem L2
abbrev DSp := List PV → (PV → Pd) → (PX → Pd) → Pd
def MonoSp (D : DSp) : Prop := ∀ ps (Q Q' : PV → Pd) (E E' : PX → Pd) n, (∀ p n, Q p n → Q' p n) → (∀ x n, E x n → E' x n) → D ps Q E n → D ps Q' E' n
abbrev DSi := List PV → (List PV → Pd) → (PX → Pd) → Pd
def MonoSi (D : DSi) : Prop := ∀ ps (Q Q' : List PV → Pd) (E E' : PX → Pd) n, (∀ p n, Q p n → Q' p n) → (∀ x n, E x n → E' x n) → D ps Q E n → D ps Q' E' n
def upX (P : Par) (K : PySem.W.Frag) (H : Hp) (W : Wd) (E : XK) : PX → Pd := fun x n => ∀ cls d W' H', Fr0 P K H W W' H' → W'.c = n → RepX P K W' H' x cls d → E cls d H'
def liftSp (P : Par) (K : PySem.W.Frag) (D : DSp) : Sp := fun vs H Q E => ∃ W ps, Same W.F H ∧ BoxOk P K W H ∧ RepL P K W ps vs ∧ D ps (Tell P K W H Q) (upX P K H W E) W.c
def insH (Hb : Hp) (x dx C : Addr) : Hp := upd (upd Hb dx (.own x)) x (.ins C dx [])
def liftSi (P : Par) (K : PySem.W.Frag) (c : Nat) (D : DSi) : Sp := fun vs H Q E => ∃ Hb W ps x dx us, vs = .ref x :: us ∧ H = insH Hb x dx (P.cm c) ∧ Hb x = none ∧ Hb dx = none ∧ dx ≠ x ∧ Same W.F Hb ∧ BoxOk P K W Hb ∧ RepL P K W ps us ∧
  D ps (fun fs n => ∀ W' H', Fr0 P K Hb W W' H' → W'.c = n → (∃ dx' gs, H' x = some (.ins (P.cm c) dx' gs) ∧ gs.map (·.1) = P.fn c ∧ RepL P K W' fs (gs.map (·.2)) ∧ OwnA Hb W' x) → Q .non H') (upX P K Hb W E) W.c
structure FnD (Z : Par) (prog : Program) (w : World) (K : PySem.W.Frag) (mg : Str → Option Value) (base : Heap) (k : Nat) (f : Addr) (fd : FuncData) (ps : List Str) (D : DSp) : Prop where
  mono : MonoSp D
  ok : FnOk prog w K mg base (L2.CX prog w) k f fd ps (liftSp Z K D)
structure FnI (Z : Par) (prog : Program) (w : World) (K : PySem.W.Frag) (mg : Str → Option Value) (base : Heap) (k : Nat) (f : Addr) (fd : FuncData) (ps : List Str) (c : Nat) (D : DSi) : Prop where
  mono : MonoSi D
  ok : FnOk prog w K mg base (L2.CX prog w) k f fd ps (liftSi Z K c D)
theorem FnD.imp {Z : Par} {prog : Program} {w : World} {K : PySem.W.Frag} {mg : Str → Option Value} {base : Heap} {k : Nat} {f : Addr} {fd : FuncData} {ps : List Str} {D D' : DSp} (F : FnD Z prog w K mg base k f fd ps D) (m : MonoSp D')
    (h : ∀ vs Q E n, D' vs Q E n → D vs Q E n) : FnD Z prog w K mg base k f fd ps D' := ⟨m, F.ok.imp fun vs H Q E q => by
  obtain ⟨W, qs, s, b, r, q⟩ := q
  exact ⟨W, qs, s, b, r, h _ _ _ _ q⟩⟩
section
variable {Z : Cz} {X : Cx} {P : Par} {K : PySem.W.Frag} {W : Wd} {H : Hp} {e a b o : Expr} {es : List Expr} {pos p apos : Pos} {ta tb te : DT} {t : DA} {Ex : PX → Pd} {k : Nat} {f C : Addr} {fd : FuncData} {ps : List Str} {D : DSp} {Di : DSi} {dps : List PV} {dvs : List V} {c : Nat}
def dCall (D : DSp) (dps : List PV) (Ex : PX → Pd) (t : DA) : DT := fun ρ Q => t ρ fun ps => D (ps ++ dps) Q Ex
theorem dCall_mono (hD : MonoSp D) (h : MonoT t) : MonoT (dCall D dps Ex t) := fun ρ Q Q' n hq q => h ρ _ _ n (fun ps n q => hD _ _ _ _ _ n hq (fun _ _ x => x) q) q
theorem call_in {W1 : Wd} {H1 : Hp} {qs : List PV} {vs : List V} {Q : VK} (hD : MonoSp D) {W0 : Wd} {H0 : Hp} (f0 : Fr0 Z.P K Z.H0 Z.W0 W0 H0) (f1 : Fr0 Z.P K H0 W0 W1 H1) (r : RepL Z.P K W1 qs vs) (q : D qs (fun p n => ∀ v W' H', Fr0 Z.P K H0 W0 W' H' → W'.c = n → Rep Z.P K W' p v → Q v H') Ex W1.c) :
    liftSp Z.P K D vs H1 Q (exK Z K Ex) :=
  ⟨W1, qs, f1.sub, f1.box, r, hD _ _ _ _ _ _ (fun p n t v W2 H2 f2 c2 r2 => t v W2 H2 (f1.trans f2) c2 r2) (fun x n ex cls d W2 H2 f2 c2 rx => ⟨x, W2, c2 ▸ ex, (f0.trans f1).trans f2, rx⟩) q⟩
theorem lift_call (hD : MonoSp D) (h : MonoT t) (hd : ∀ W, RepL Z.P K W dps dvs) {σ : L2.St} {H : Hp} {Q : VK} (q : liftE Z.P K Z.H0 Z.W0 (dCall D dps Ex t) σ H Q) :
    tCall (liftSp Z.P K D) dvs (exK Z K Ex) (liftA Z.P K Z.H0 Z.W0 t) σ H Q := by
  obtain ⟨W, ρ, S, q⟩ := q
  refine ⟨W, ρ, S, h ρ _ _ _ (fun qs n q vs W1 H1 f1 c1 r1 => ?_) q⟩
  exact call_in hD S.fr f1 (r1.append (hd W1)) (c1 ▸ q)
theorem de_call (hD : MonoSp D) (ha : DAs Z X es t) (hd : ∀ W, RepL Z.P X.K W dps dvs)
    (hp : PA X es (liftA Z.P X.K Z.H0 Z.W0 t) → PE X e (tCall (liftSp Z.P X.K D) dvs (exK Z X.K Ex) (liftA Z.P X.K Z.H0 Z.W0 t))) : DE Z X e (dCall D dps Ex t) :=
  ⟨dCall_mono hD ha.mono, PE.weak (hp ha.run) fun _ _ _ q => lift_call hD ha.mono hd q⟩
theorem no_dps (W : Wd) : RepL P K W [] [] := RepL.nil
theorem de_call0 (hD : MonoSp D) (hd : ∀ W, RepL Z.P X.K W dps dvs)
    (hp : PE X e (tCall (liftSp Z.P X.K D) dvs (exK Z X.K Ex) tNil)) : DE Z X e (dCall D dps Ex dNil) := by
  refine ⟨dCall_mono hD (fun _ _ _ _ hq q => hq _ _ q), PE.weak hp fun σ H Q q => ?_⟩
  obtain ⟨W, ρ, S, q⟩ := q
  exact call_in hD S.fr (Fr0.refl S.same S.box) (hd W) q
def dMake (c : Nat) (D : DSi) (dps : List PV) (Ex : PX → Pd) (t : DA) : DT := fun ρ Q => t ρ fun ps => D (ps ++ dps) (fun fs => Q (.ins c fs)) Ex
theorem make_in {W1 : Wd} {H1 : Hp} {qs : List PV} {vs : List V} {Q : VK} (hD : MonoSi Di) {W0 : Wd} {H0 : Hp} (f0 : Fr0 Z.P K Z.H0 Z.W0 W0 H0) (f1 : Fr0 Z.P K H0 W0 W1 H1) (r : RepL Z.P K W1 qs vs) (q : Di qs (fun fs n => ∀ v W' H', Fr0 Z.P K H0 W0 W' H' → W'.c = n → Rep Z.P K W' (.ins c fs) v → Q v H') Ex W1.c)
    {x dx : Addr} (nx : H1 x = none) (nd : H1 dx = none) (ne : dx ≠ x) : liftSi Z.P K c Di (.ref x :: vs) (insH H1 x dx (Z.P.cm c)) (fun v H2 => v = .non ∧ Q (.ref x) H2) (exK Z K Ex) := by
  refine ⟨H1, W1, qs, x, dx, vs, rfl, rfl, nx, nd, ne, f1.sub, f1.box, r, hD _ _ _ _ _ _ (fun fs n t W2 H2 f2 c2 h2 => ⟨rfl, ?_⟩) (fun x n ex cls d W2 H2 f2 c2 rx => ⟨x, W2, c2 ▸ ex, (f0.trans f1).trans f2, rx⟩) q⟩
  obtain ⟨dx', gs, hx, n, l, x1, x2, x3⟩ := h2
  have le : Wle W2 (W2.add x (.ins (Z.P.cm c) dx' gs)) := Wle.add x2
  refine t _ (W2.add x (.ins (Z.P.cm c) dx' gs)) H2 (f1.trans ⟨f2.le.trans le, fun y u h => ?_, f2.keep, fun y u h => ?_, f2.freshB, fun y j h => ?_, f2.bx⟩) c2 (rep_ins.2 ⟨x, dx', gs, rfl, add_same, n, RepL.mono le _ _ l⟩)
  · have h' : upd W2.F x (.ins (Z.P.cm c) dx' gs) y = some u := h
    by_cases e : y = x
    · subst e; rw [upd_same] at h'; rw [← h']; exact hx
    · rw [upd_ne e] at h'; exact f2.sub y u h'
  · have h' : upd W2.F x (.ins (Z.P.cm c) dx' gs) y = some u := h
    by_cases e : y = x
    · subst e; exact .inr nx
    · rw [upd_ne e] at h'; exact f2.freshF y u h'
  · obtain ⟨h1, u, h2, h3⟩ := f2.box y j h
    have nb : y ≠ x := fun e => by rw [e] at h; have h' : W2.B x = some j := h; rw [x3] at h'; cases h'
    exact ⟨by show upd W2.F x _ y = none; rw [upd_ne nb]; exact h1, u, h2, h3.mono le rfl⟩
theorem dMake_mono (hD : MonoSi Di) (h : MonoT t) : MonoT (dMake c Di dps Ex t) := fun ρ Q Q' n hq q => h ρ _ _ n (fun ps n q => hD _ _ _ _ _ n (fun fs n => hq _ n) (fun _ _ x => x) q) q
theorem de_make (hD : MonoSi Di) (ha : DAs Z X es t) (hd : ∀ W, RepL Z.P X.K W dps dvs)
    (hp : PA X es (liftA Z.P X.K Z.H0 Z.W0 t) → PE X e (tMake (Z.P.cm c) (liftSi Z.P X.K c Di) dvs (exK Z X.K Ex) (liftA Z.P X.K Z.H0 Z.W0 t))) : DE Z X e (dMake c Di dps Ex t) := by
  refine ⟨dMake_mono hD ha.mono, PE.weak (hp ha.run) fun σ H Q q => ?_⟩
  obtain ⟨W, ρ, S, q⟩ := q
  refine ⟨W, ρ, S, ha.mono ρ _ _ _ (fun qs n q vs W1 H1 f1 c1 r1 x dx nx nd ne => ?_) q⟩
  exact make_in hD S.fr f1 (r1.append (hd W1)) (c1 ▸ q) nx nd ne
def isIns (x : PV) (n : Ck) (c : Nat) (vs : List PV) : Prop := x = .ins c vs ∨ ∃ k, x = .box k ∧ n.isI k c vs
def dMeth (c : Nat) (D : DSp) (dps : List PV) (Ex : PX → Pd) (ta : DT) (t : DA) : DT := fun ρ Q => ta ρ fun x n => ∃ vs, isIns x n c vs ∧ t ρ (fun ps => D (x :: (ps ++ dps)) Q Ex) n
theorem ins_at {P : Par} {K : PySem.W.Frag} {W : Wd} {H : Hp} {x : PV} {v : V} {c : Nat} {vs : List PV} (s : Same W.F H) (b : BoxOk P K W H) (r : Rep P K W x v) (h : isIns x W.c c vs) : ∃ a dx gs, v = .ref a ∧ H a = some (.ins (P.cm c) dx gs) ∧ gs.map (·.1) = (P.fn c).take vs.length ∧ RepL P K W vs (gs.map (·.2)) := by
  rcases h with rfl | ⟨j, rfl, hj⟩
  · rw [rep_ins] at r
    obtain ⟨a, dx, gs, rfl, h1, nn, l⟩ := r
    exact ⟨a, dx, gs, rfl, s _ _ h1, (by
      have h2 := l.length
      rw [List.length_map] at h2
      have h3 : gs.length = (P.fn c).length := by rw [← nn, List.length_map]
      rw [nn, h2, h3, List.take_length]), l⟩
  · obtain ⟨a, dx, gs, rfl, _, h1, nn, l0, l⟩ := box_ins b r hj
    exact ⟨a, dx, gs, rfl, h1, nn, l⟩
theorem lookup_no {gs : List (Str × V)} {m : Str} (h : m ∉ gs.map (·.1)) : gs.lookup m = none := by
  induction gs with
  | nil => rfl
  | cons g gs ih =>
    obtain ⟨g1, g2⟩ := g
    simp only [List.map_cons, List.mem_cons, not_or] at h
    have e : (m == g1) = false := by simpa using h.1
    simp only [List.lookup, e]
    exact ih h.2
def dProp (c : Nat) (D : DSp) (ta : DT) : DT := fun ρ Q => ta ρ fun x n => ∃ vs, isIns x n c vs ∧ D [x] Q (fun _ _ => False) n
theorem exK_false {K : PySem.W.Frag} {cls : Value} {d : Option Addr} {H' : Hp} (h : exK Z K (fun _ _ => False) cls d H') : False := by
  obtain ⟨_, _, h, _⟩ := h
  exact h
theorem pass_false {X' : Cx} : Passes (L2.CX X'.prog X'.w) X' (exK Z K (fun _ _ => False)) := by
  intro pins σ H s e s' I h
  refine passL pins σ H s e s' I ?_
  obtain ⟨a, B, h1, h2, h3, h4, h5, h6, h7, h8, h9, h10, z⟩ := h
  exact (exK_false z).elim
theorem de_prop (hD : MonoSp D) (ho : DE Z X o ta)
    (hp : PE X o (liftE Z.P X.K Z.H0 Z.W0 ta) → PE X e (tProp (Z.P.cm c) (liftSp Z.P X.K D) [] (exK Z X.K fun _ _ => False) (liftE Z.P X.K Z.H0 Z.W0 ta))) : DE Z X e (dProp c D ta) := by
  refine ⟨fun ρ Q Q' n hq q => ho.mono ρ _ _ n (fun x n q => let ⟨vs, e, q⟩ := q; ⟨vs, e, hD _ _ _ _ _ n hq (fun _ _ x => x) q⟩) q, PE.weak (hp ho.run) fun σ H Q q => ?_⟩
  obtain ⟨W, ρ, S, q⟩ := q
  refine ⟨W, ρ, S, ho.mono ρ _ _ _ (fun x n q v W1 H1 f1 c1 r1 => ?_) q⟩
  subst c1
  obtain ⟨vs, hi, q⟩ := q
  have r1' := r1
  obtain ⟨a, dx, gs, rfl, h1, nn, l⟩ := ins_at f1.sub f1.box r1 hi
  exact ⟨a, dx, gs, rfl, h1, call_in hD S.fr f1 (RepL.cons r1' RepL.nil) q⟩
structure OwnOp (K : PySem.W.Frag) (C f : Addr) (nm : Str) : Prop where
  at_ : PySem.W.findIn K (.ref C) nm = some (some (.ref f))
  fn : PySem.W.isFn K (.ref f) = true
theorem not_ni {v : V} {u : Value} (r : RelV v u) : u ≠ .notImplemented := by
  cases v <;> first | (obtain ⟨t, rfl⟩ := r; intro z; cases z) | (cases r; intro z; cases z)
def gOwn (c : Nat) (D : DSp) : G2 := fun x y Q n => ∃ vs, x = .ins c vs ∧ ∃ us, y = .ins c us ∧ D [x, y] Q (fun _ _ => False) n
theorem gOwn_mono (hD : MonoSp D) : MonoG2 (gOwn c D) := fun x y Q Q' n hq q => let ⟨vs, e, us, e2, q⟩ := q; ⟨vs, e, us, e2, hD _ _ _ _ _ n hq (fun _ _ x => x) q⟩
theorem liftSp_own {W : Wd} {H : Hp} {qs : List PV} {vs : List V} {Q : VK} (hD : MonoSp D) (s : Same W.F H) (b : BoxOk Z.P K W H) (r : RepL Z.P K W qs vs) (q : D qs (Tell Z.P K W H Q) (fun _ _ => False) W.c) : liftSp Z.P K D vs H Q (exK Z K fun _ _ => False) :=
  ⟨W, qs, s, b, r, hD _ _ _ _ _ _ (fun _ _ t => t) (fun x n z => z.elim) q⟩
theorem dop_own {op : Operator} (F : FnD Z.P X.prog X.w X.K X.mg X.base k f fd ps D) (hr : Room k X.A) (hb : Binds X.K fd ps []) (hs : OwnOp X.K (Z.P.cm c) f (PySem.dunder op.info.2)) (hc : PySem.W.selfFirst X.K (Z.P.cm c) = true) : DOp Z X (binaryOp op) (gOwn c D) := by
  refine ⟨gOwn_mono F.mono, fun pins s σ H x y u v Q I rx ry q => ?_⟩
  obtain ⟨W, p, r, s1, b1, r1, r2, vs, rfl, us, rfl, q⟩ := q
  have r1' := r1
  have r2' := r2
  rw [rep_ins] at r1 r2
  obtain ⟨a, dx, gs, rfl, h1, _, _⟩ := r1
  obtain ⟨a2, dx2, gs2, rfl, h2, _, _⟩ := r2
  cases rx
  cases ry
  obtain ⟨mA, J, _⟩ := ins_get I.hok (s1 _ _ h1)
  obtain ⟨mB, J', _⟩ := ins_get I.hok (s1 _ _ h2)
  obtain ⟨od, J, _⟩ := J.look
  obtain ⟨od', J', _⟩ := J'.look
  obtain ⟨m, hF⟩ := I.fr
  refine PySem.W.binop_K hF I.ok.mod.kin J J'.type hc hs.at_ hs.fn ?_
  refine wpAny_mono (run_fn (us := [.ref a, .ref a2]) F.ok hr hb .nil pass_false I (show Vals [V.ref a, V.ref a2] _ from .cons rfl (.cons rfl .nil)) (liftSp_own (Z := Z) F.mono s1 b1 (RepL.cons r1' (RepL.cons r2' RepL.nil)) q)) (fun u s' z => ?_) fun _ _ z => z
  have hne : u ≠ .notImplemented := let ⟨_, _, _, rv, _⟩ := z; not_ni rv
  unfold PySem.W.CmpBack
  split
  · exact absurd rfl hne
  · exact z
def gTruO (c : Nat) (D : DSp) : GB := fun x Q n => ∃ vs, x = .ins c vs ∧ D [x] (fun p n => ∃ b, p = .bl b ∧ Q b n) (fun _ _ => False) n
end
def rstart (n : Nat) (vs : List PV) : Rho := vs.map .fz ++ List.replicate (n - vs.length) .no
theorem map_get {α β : Type} {f : α → β} {l : List α} {i : Nat} {y : β} (h : (l.map f)[i]? = some y) : ∃ x, l[i]? = some x ∧ f x = y := by
  rw [List.getElem?_map] at h
  cases e : l[i]? with
  | none => rw [e] at h; cases h
  | some x => rw [e] at h; exact ⟨x, rfl, Option.some.inj h⟩
theorem sr_start {P : Par} {K : PySem.W.Frag} {W : Wd} {H : Hp} {N : List Str} {ps : List PV} {vs : List V} (s : Same W.F H) (b : BoxOk P K W H) (r : RepL P K W ps vs) : SR P K H W W (L2.start N vs) H (rstart N.length ps) := by
  have hl := r.length
  refine ⟨Fr0.refl s b, by unfold L2.start rstart; simp only [List.length_append, List.length_map, List.length_replicate, hl], fun i t h => ?_, fun i j t u a hi hj oi oj _ _ => ?_⟩
  · unfold rstart at h
    by_cases c : i < ps.length
    · rw [List.getElem?_append_left (by rw [List.length_map]; exact c)] at h
      obtain ⟨p, e, rfl⟩ := map_get h
      obtain ⟨v, e2, rv⟩ := r.get e
      refine ⟨v, ?_, rv⟩
      unfold L2.start
      rw [List.getElem?_append_left (by rw [List.length_map, ← hl]; exact c), List.getElem?_map, e2]
      rfl
    · rw [List.getElem?_append_right (by rw [List.length_map]; omega)] at h
      have := List.getElem?_replicate.symm.trans h
      split at this
      · cases this; trivial
      · cases this
  · exfalso
    unfold rstart at hi
    by_cases c : i < ps.length
    · rw [List.getElem?_append_left (by rw [List.length_map]; exact c)] at hi
      obtain ⟨p, e, rfl⟩ := map_get hi
      cases oi
    · rw [List.getElem?_append_right (by rw [List.length_map]; omega)] at hi
      have := List.getElem?_replicate.symm.trans hi
      split at this
      · cases this; cases oi
      · cases this
abbrev cxF (P : Program) (w : World) (K : PySem.W.Frag) (mg : Str → Option Value) (base : Heap) (N : List Str) (qual : Str) (sc : Scope) (f : Addr) (cdv : Value) (A : Around) (outer : List Env) (s : Shared) (H : Hp) (E : XK) : Cx := cxOf (L2.CX P w) P w K mg base N qual sc f cdv A outer s H E
theorem dx_of {P : Program} {w : World} {K : PySem.W.Frag} {mg : Str → Option Value} {base : Heap} {N : List Str} {qual : Str} {sc : Scope} {f : Addr} {cdv : Value} {A : Around} {outer : List Env} {s : Shared} {H : Hp} {E : XK} {Z : Par} {W : Wd} {Hb : Hp}
    {Ex : PX → Pd} (h : ∀ x n, Ex x n → upX Z K Hb W E x n) : DX ⟨Z, Hb, W⟩ (cxF P w K mg base N qual sc f cdv A outer s H E) Ex := by
  have tk0 : Takes (cxF P w K mg base N qual sc f cdv A outer s H E) (fun cls d _ H => E cls d H) := takes_of rfl rfl rfl rfl
  have tk : Takes (cxF P w K mg base N qual sc f cdv A outer s H E) (fun cls d _ H' => exK ⟨Z, Hb, W⟩ K Ex cls d H') := tk0.imp fun c d σ H' q => by
    obtain ⟨x, W', ex, fr, rx⟩ := q
    exact h x _ ex c d W' H' fr rfl rx
  exact ⟨passes_call tk fun _ _ _ _ q => q, tk, passes_of rfl, rfl⟩
section
variable {Zp : Par} {P : Program} {w : World} {K : PySem.W.Frag} {mg : Str → Option Value} {base : Heap}
theorem fnD {x qual : Str} {st : Stmt} {f : Addr} {fd : FuncData} {N ps : List Str} {k : Nat} {D : DSp} (F : Fun K x qual st f fd) (S : FnScope N ps (defScope st)) (m : MonoSp D) (len : ∀ vs Q E n, D vs Q E n → vs.length = ps.length)
    (body : ∀ (cdv : Value) (A : Around) (outer : List Env) (s : Shared) (H : Hp) (E : XK) (W : Wd) (Ex : PX → Pd), Room k (A.deeper (PyProof.Rows.envOfC qual (defScope st) s.heap.objs.size f cdv)) →
      DX ⟨Zp, H, W⟩ (cxF P w K mg base N qual (defScope st) f cdv A outer s H E) Ex → ∀ (vs : List PV) (Q : PV → Pd), D vs Q Ex W.c →
      ∃ t, DSs ⟨Zp, H, W⟩ (cxF P w K mg base N qual (defScope st) f cdv A outer s H E) (defBody st) t ∧ t { nx := fun _ => Q .non, rt := Q, bk := fun _ _ => False, ct := fun _ _ => False } (rstart N.length vs) W.c) : FnD Zp P w K mg base (k + 1) f fd ps D := by
  refine ⟨m, F.okX S (fun vs H Q E h => ?_) (fun cdv A outer s H vs Q E hr h => ?_)⟩
  · obtain ⟨W, qs, _, _, r, q⟩ := h
    rw [← r.length]; exact len _ _ _ _ q
  · obtain ⟨W, qs, sm, bx, r, q⟩ := h
    have dx : DX ⟨Zp, H, W⟩ (cxF P w K mg base N qual (defScope st) f cdv A outer s H E) (upX Zp K H W E) := dx_of fun x n h => h
    obtain ⟨t, ht, q⟩ := body cdv A outer s H E W _ hr dx qs _ q
    refine ⟨_, ht.run, W, _, sr_start sm bx r, ht.mono { nx := fun _ => Tell Zp K W H Q .non, rt := Tell Zp K W H Q, bk := fun _ _ => False, ct := fun _ _ => False } _ _ _ ⟨fun ρ n q W' σ' H' l c S' => ?_, fun p n q v W' H' l c fr rv => q v W' H' fr c rv, fun _ _ z => z.elim, fun _ _ z => z.elim⟩ q⟩
    exact q .non W' H' S'.fr c (rep_non.2 rfl)
def istart (n : Nat) (x : Addr) (c : Nat) (vs : List PV) : Rho := .slf x c [] :: rstart (n - 1) vs
theorem sr_init {c : Nat} {W : Wd} {Hb : Hp} {N : List Str} {ps : List PV} {vs : List V} {x dx : Addr} (nx : Hb x = none) (nd : Hb dx = none) (s : Same W.F Hb) (b : BoxOk Zp K W Hb) (r : RepL Zp K W ps vs) (hN : 0 < N.length) :
    SR Zp K Hb W W (L2.start N (.ref x :: vs)) (insH Hb x dx (Zp.cm c)) (istart N.length x c ps) := by
  have hl := r.length
  have kp : Same Hb (insH Hb x dx (Zp.cm c)) := fun y u h => by
    unfold insH
    rw [upd_ne (ne_of_none h nx), upd_ne (ne_of_none h nd)]; exact h
  have e1 : L2.start N (.ref x :: vs) = some (.ref x) :: L2.start N.tail vs := by
    unfold L2.start
    rw [List.map_cons, List.cons_append, List.length_cons, List.length_tail]
    congr 3
    omega
  have S := sr_start (N := N.tail) s b r
  rw [List.length_tail] at S
  rw [e1]
  refine ⟨⟨Wle.refl _, fun y u h => kp y u (s y u h), fun y u h _ => kp y u h, fun _ _ h => .inl h, fun _ _ h => .inl h, fun y j h => ?_, fun _ => ⟨rfl, fun y k h _ => ⟨h, by obtain ⟨_, u, h2, _⟩ := b y k h; rw [h2]; exact kp y u h2⟩⟩⟩, by simp only [istart, List.length_cons, S.len], fun i t h => ?_, fun i j t u a hi hj oi oj ei ej => ?_⟩
  · obtain ⟨h1, u, h2, h3⟩ := b y j h
    exact ⟨h1, u, kp y u h2, h3⟩
  · cases i with
    | zero =>
      simp only [istart, List.getElem?_cons_zero, Option.some.injEq] at h
      subst h
      refine ⟨dx, [], rfl, upd_same, by simp, Nat.zero_le _, RepL.nil, nx, none_of_same s nx, ?_⟩
      cases e : W.B x with
      | none => rfl
      | some j => obtain ⟨_, u, h2, _⟩ := b x j e; rw [nx] at h2; cases h2
    | succ i =>
      simp only [istart, List.getElem?_cons_succ] at h
      have q := S.slots i t h
      simp only [List.getElem?_cons_succ]
      cases t with
      | no => trivial
      | fz p => exact q
      | own xs =>
        exfalso
        unfold rstart at h
        rcases List.mem_append.1 (List.mem_of_getElem? h) with z | z
        · obtain ⟨p, _, e⟩ := List.mem_map.1 z; cases e
        · have := List.eq_of_mem_replicate z; cases this
      | slf aa cc xs =>
        exfalso
        unfold rstart at h
        rcases List.mem_append.1 (List.mem_of_getElem? h) with z | z
        · obtain ⟨p, _, e⟩ := List.mem_map.1 z; cases e
        · have := List.eq_of_mem_replicate z; cases this
      | exc aa cc dd xx =>
        exfalso
        unfold rstart at h
        rcases List.mem_append.1 (List.mem_of_getElem? h) with z | z
        · obtain ⟨p, _, e⟩ := List.mem_map.1 z; cases e
        · have := List.eq_of_mem_replicate z; cases this
  · have only : ∀ (i : Nat) (t : Slot), (istart N.length x c ps)[i]? = some t → t.isOwn = true → i = 0 := fun i t h o => by
      cases i with
      | zero => rfl
      | succ i =>
        exfalso
        simp only [istart, List.getElem?_cons_succ] at h
        unfold rstart at h
        rcases List.mem_append.1 (List.mem_of_getElem? h) with z | z
        · obtain ⟨p, _, e⟩ := List.mem_map.1 z; subst e; cases o
        · have := List.eq_of_mem_replicate z; subst this; cases o
    rw [only i t hi oi, only j u hj oj]
end
end DL
set_option maxRecDepth 100000
set_option maxHeartbeats 1000000
namespace DL
open PySem L2
section
variable {Z : Cz} {X : Cx} {P : Par} {K : PySem.W.Frag} {W : Wd} {H : Hp} {e a b o : Expr} {es : List Expr} {st : Stmt} {rest body : List Stmt} {pos p apos cpos p2 : Pos} {ta tb te : DT} {tc : DB} {t u : DSt} {Ex : PX → Pd} {H0 : Hp} {W0 : Wd} {σ : L2.St} {ρ : Rho}
abbrev DN := Rho → (List PV → Pd) → Pd
def TellN (P : Par) (K : PySem.W.Frag) (W : Wd) (H : Hp) (Q : VK) (xs : List PV) : Pd := fun n => ∀ a ys W' H', Fr0 P K H W W' H' → W'.c = n → H a = none → H' a = some (.lst ys) → W'.F a = none → W'.B a = none → RepL P K W' xs ys → Q (.ref a) H'
structure DNw (Z : Cz) (X : Cx) (e : Expr) (t : DN) : Prop where
  mono : MonoT t
  run : PE X e fun σ H Q => ∃ W ρ, SR Z.P X.K Z.H0 Z.W0 W σ H ρ ∧ t ρ (TellN Z.P X.K W H Q) W.c
theorem Fr0.laid {a : Addr} {o : HO} (s : Same W.F H) (b : BoxOk P K W H) (n : H a = none) : Fr0 P K H W W (upd H a o) ∧ W.F a = none ∧ W.B a = none := by
  have nB : W.B a = none := by
    cases e : W.B a with
    | none => rfl
    | some k => obtain ⟨_, u, h, _⟩ := b a k e; rw [n] at h; cases h
  refine ⟨⟨Wle.refl _, fun x u h => ?_, fun x u h _ => ?_, fun _ _ h => .inl h, fun _ _ h => .inl h, fun x k h => ?_, fun _ => ⟨rfl, fun x k h _ => ⟨h, by obtain ⟨_, u, h2, _⟩ := b x k h; rw [upd_ne (ne_of_none h2 n)]⟩⟩⟩, none_of_same s n, nB⟩
  · rw [upd_ne (ne_of_none (s x u h) n)]; exact s x u h
  · rw [upd_ne (ne_of_none h n)]; exact h
  · obtain ⟨h1, u, h2, h3⟩ := b x k h
    exact ⟨h1, u, by rw [upd_ne (ne_of_none h2 n)]; exact h2, h3⟩
theorem TellN.at {Q : VK} {xs : List PV} {ys : List V} {W1 : Wd} {H1 : Hp} (q : TellN P K W H Q xs W1.c) (f : Fr0 P K H W W1 H1) (r : RepL P K W1 xs ys) (nb : ∀ a, H1 a = none → H a = none) : ∀ a, H1 a = none → Q (.ref a) (upd H1 a (.lst ys)) := fun a n => by
  obtain ⟨f2, nF, nB⟩ := Fr0.laid (o := .lst ys) f.sub f.box n
  exact q a ys W1 _ (f.trans f2) rfl (nb a n) upd_same nF nB r
theorem Fr0.back {W' : Wd} {H' : Hp} (f : Fr0 P K H W W' H') (bx : BoxOk P K W H) {a : Addr} (n : H' a = none) : H a = none := by
  cases e : H a with
  | none => rfl
  | some o =>
    cases e2 : W.B a with
    | none => rw [f.keep a o e e2] at n; cases n
    | some k =>
      obtain ⟨_, u, h, _⟩ := f.box a k (f.le.b a k e2)
      rw [n] at h; cases h
theorem DNw.de {t : DN} (h : DNw Z X e t) : DE Z X e (fun ρ Q => t ρ fun xs => Q (.lst xs)) := by
  refine ⟨fun ρ Q Q' n hq q => h.mono ρ _ _ n (fun xs n q => hq _ _ q) q, PE.weak h.run fun σ H Q q => ?_⟩
  obtain ⟨W, ρ, S, q⟩ := q
  refine ⟨W, ρ, S, h.mono ρ _ _ _ (fun xs n q a ys W1 H1 f cc n ha nF nB r => ?_) q⟩
  refine q _ (W1.add a (.lst ys)) H1 ⟨f.le.trans (Wle.add nF), fun x u hx => ?_, f.keep, fun x u hx => ?_, f.freshB, fun x k hx => ?_, f.bx⟩ cc (rep_lst.2 ⟨a, ys, rfl, add_same, RepL.mono (Wle.add nF) _ _ r⟩)
  · have h' : upd W1.F a (.lst ys) x = some u := hx
    by_cases c : x = a
    · subst c; rw [upd_same] at h'; rw [← h']; exact ha
    · rw [upd_ne c] at h'; exact f.sub x u h'
  · have h' : upd W1.F a (.lst ys) x = some u := hx
    by_cases c : x = a
    · subst c; exact .inr n
    · rw [upd_ne c] at h'; exact f.freshF x u h'
  · obtain ⟨h1, u, h2, h3⟩ := f.box x k hx
    have nb : x ≠ a := fun c => by rw [c] at hx; have h' : W1.B a = some k := hx; rw [nB] at h'; cases h'
    exact ⟨by show upd W1.F a _ x = none; rw [upd_ne nb]; exact h1, u, h2, h3.mono (Wle.add nF) rfl⟩
def nLst (t : DA) : DN := fun ρ Q => t ρ fun xs n => xs.length ≤ sizeLine ∧ Q xs n
theorem dn_disp {t : DA} (h : DAs Z X es t) : DNw Z X (.List es pos) (nLst t) := by
  refine ⟨fun ρ Q Q' n hq q => h.mono ρ _ _ n (fun xs n q => ⟨q.1, hq _ _ q.2⟩) q, PE.weak (pe_lst h.run) fun σ H Q q => ?_⟩
  obtain ⟨W, ρ, S, q⟩ := q
  refine ⟨W, ρ, S, h.mono ρ _ _ _ (fun xs n q vs W1 H1 f1 c1 r1 => ⟨by rw [← r1.length]; exact q.1, ?_⟩) q⟩
  subst c1
  exact TellN.at q.2 f1 r1 fun a n => f1.back S.box n
def dOwn (i : Nat) (t : DN) : DSt := fun D ρ => t ρ fun xs => D.nx (ρ.set i (.own xs))
theorem lift_own {i : Nat} {t : DN} (hm : MonoT t) {D : Ends} (q : liftS Z X.K (dOwn i t) D σ H) : ∃ W ρ, SR Z.P X.K Z.H0 Z.W0 W σ H ρ ∧ t ρ (TellN Z.P X.K W H fun v H1 => gName i v σ H1 D.nx) W.c := by
  obtain ⟨W, ρ, S, q⟩ := q
  refine ⟨W, ρ, S, hm ρ _ _ _ (fun xs n q a ys W1 H1 f c1 n ha nF nB r => ?_) q⟩
  have S1 := S.step f
  have n0 : Z.H0 a = none := by
    cases e : Z.H0 a with
    | none => rfl
    | some o =>
      cases e2 : Z.W0.B a with
      | none => rw [S.fr.keep a o e e2] at n; cases n
      | some k => obtain ⟨_, u, h, _⟩ := S.fr.box a k (S.fr.le.b a k e2); rw [n] at h; cases h
  refine q W1 _ H1 f.le c1 (S1.setOwn ha r ⟨n0, nF, nB⟩ fun j s hj oj ej => ?_)
  have := S.slots j s hj
  cases s with
  | no => cases oj
  | fz _ => cases oj
  | own zs => obtain ⟨b, ws, e2, hb, _⟩ := this; rw [ej] at e2; cases e2; rw [n] at hb; cases hb
  | slf b c vs => obtain ⟨dx, gs, e2, hb, _⟩ := this; rw [ej] at e2; cases e2; rw [n] at hb; cases hb
  | exc _ _ _ _ => cases oj
theorem ds_own (i : Nat) {x : Str} {pos' : Pos} {t : DN} (hN : X.N.Nodup) (he : DNw Z X e t) (hi : X.N[i]? = some x := by rfl) (hx : Loc X.env.scope x := by first | exact Or.inl rfl | exact Or.inr rfl) (hs : swapsWith e (some (.Name x pos')) pos.line X.env = pure false := by rfl)
    (hf : X.fn x = true ∨ X.env.scope.names.lookup x = some .local := by first | exact .inl rfl | exact .inr rfl) : DS Z X (.Assign [.Name x pos'] e pos) (dOwn i t) :=
  ⟨fun D D' ρ n l q => he.mono ρ _ _ n (fun xs n q => l.nx _ _ q) q, PS.weak (ps_set hN hi hx he.run hs hf) fun D σ H q => lift_own he.mono q⟩
def onOwn (i : Nat) (ρ : Rho) (k : List PV → Pd) : Pd := fun n => match ρ[i]? with
  | some (.own xs) => k xs n
  | _ => False
theorem onOwn_mono {i : Nat} {ρ : Rho} {k k' : List PV → Pd} {n : Ck} (h : ∀ xs n, k xs n → k' xs n) (q : onOwn i ρ k n) : onOwn i ρ k' n := by
  unfold onOwn at q ⊢
  split at q
  · exact h _ _ q
  · exact q.elim
theorem onOwn_at {i : Nat} {ρ : Rho} {k : List PV → Pd} {n : Ck} (q : onOwn i ρ k n) : ∃ xs, ρ[i]? = some (.own xs) ∧ k xs n := by
  unfold onOwn at q
  split at q
  · rename_i xs e; exact ⟨xs, e, q⟩
  · exact q.elim
def dApnd (i : Nat) (te : DT) : DSt := fun D ρ => te ρ fun p => onOwn i ρ fun xs n => xs.length < sizeLine ∧ D.nx (ρ.set i (.own (xs ++ [p]))) n
theorem own_addr {i : Nat} {xs : List PV} (S : SR P K H0 W0 W σ H ρ) (h : ρ[i]? = some (.own xs)) : ∃ a ys, σ[i]? = some (some (.ref a)) ∧ H a = some (.lst ys) ∧ RepL P K W xs ys ∧ OwnA H0 W a := S.slots i _ h
theorem ds_append (i : Nat) {x : Str} {xp : Pos} (he : DE Z X e te)
    (hp : PA X [e] (liftA Z.P X.K Z.H0 Z.W0 (dCons te dNil)) → PS X st (tDrop (tBM X.K "list" rAppend (tVar i) (liftA Z.P X.K Z.H0 Z.W0 (dCons te dNil)))))
    (hs : starEach [e] X.env = (false, eval e X.env) :: starEach [] X.env := by rfl) : DS Z X st (fun D ρ => onOwn i ρ fun _ => dApnd i te D ρ) := by
  have hA : DAs Z X [e] (dCons te dNil) := da_cons he da_nil hs
  refine ⟨fun D D' ρ n l q => onOwn_mono (fun xs n q => he.mono ρ _ _ n (fun p n q => onOwn_mono (fun xs n q => ⟨q.1, l.nx _ _ q.2⟩) q) q) q, PS.weak (hp hA.run) fun D σ H q => ?_⟩
  obtain ⟨W, ρ, S, q⟩ := q
  obtain ⟨xs0, e0, q⟩ := onOwn_at q
  obtain ⟨a, ys, ea, ha, _, _⟩ := own_addr S e0
  refine ⟨.ref a, ea, Or.inl ⟨rfl, ys, SqL.of ha⟩, W, ρ, S, he.mono ρ _ _ _ (fun p n q vs W1 H1 f1 c1 r1 => ?_) q⟩
  obtain ⟨xs, e1, c, q⟩ := onOwn_at q
  obtain ⟨v, rfl, r⟩ := r1.one
  have S1 := S.step f1
  obtain ⟨a', ys', ea', ha', l, ow⟩ := own_addr S1 e1
  rw [ea] at ea'
  cases ea'
  exact ⟨a, ys', v, rfl, rfl, ha', by rw [← l.length]; exact c, q W1 σ _ f1.le c1 (S1.mut e1 rfl ea ow ⟨a, _, rfl, upd_same, l.append (RepL.cons r RepL.nil), ow⟩)⟩
def wipeR (ρ : Rho) : List Nat → Rho
  | [] => ρ
  | v :: vs => (wipeR ρ vs).set v .no
theorem SR.setNo {i : Nat} {x : Option V} (S : SR P K H0 W0 W σ H ρ) : SR P K H0 W0 W (σ.set i x) H (ρ.set i .no) := by
  refine ⟨S.fr, by rw [List.length_set, List.length_set]; exact S.len, fun j s h => ?_, fun j k s t a hj hk oj ok ej ek => ?_⟩
  · by_cases c : i = j
    · subst c
      obtain ⟨e, _⟩ := get_set_eq h
      subst e; trivial
    · rw [List.getElem?_set_ne c] at h ⊢
      exact S.slots j s h
  · have nj : i ≠ j := fun c => by
      subst c
      obtain ⟨e, _⟩ := get_set_eq hj
      subst e; cases oj
    have nk : i ≠ k := fun c => by
      subst c
      obtain ⟨e, _⟩ := get_set_eq hk
      subst e; cases ok
    rw [List.getElem?_set_ne nj] at hj ej
    rw [List.getElem?_set_ne nk] at hk ek
    exact S.dist j k s t a hj hk oj ok ej ek
theorem SR.wipe (S : SR P K H0 W0 W σ H ρ) : ∀ vs : List Nat, SR P K H0 W0 W (L2.wipe σ vs) H (wipeR ρ vs)
  | [] => S
  | v :: vs => (SR.wipe S vs).setNo
theorem wipe_get (σ : L2.St) : ∀ (vs : List Nat) (i : Nat), (L2.wipe σ vs)[i]? = if i ∈ vs ∧ i < σ.length then some none else σ[i]?
  | [], i => by simp [L2.wipe]
  | v :: vs, i => by
    unfold L2.wipe
    by_cases c : v = i
    · subst c
      by_cases hl : v < σ.length
      · rw [List.getElem?_set_self (by rw [wipe_length]; exact hl), if_pos ⟨List.mem_cons_self, hl⟩]
      · rw [List.getElem?_eq_none (by rw [List.length_set, wipe_length]; omega), if_neg (fun z => hl z.2), List.getElem?_eq_none (by omega)]
    · rw [List.getElem?_set_ne c, wipe_get σ vs i]
      have e : (i ∈ v :: vs) ↔ i ∈ vs := by simp [Ne.symm c]
      simp only [e]
theorem wipe_agree {vs : List Nat} {σ σ2 : L2.St} (h : Agree vs (L2.wipe σ vs) σ2) : L2.wipe σ2 vs = L2.wipe σ vs := by
  have hl : σ2.length = σ.length := by rw [h.1, wipe_length]
  apply List.ext_getElem?
  intro i
  rw [wipe_get, wipe_get, hl]
  by_cases c : i ∈ vs
  · by_cases d : i < σ.length
    · rw [if_pos ⟨c, d⟩, if_pos ⟨c, d⟩]
    · rw [if_neg (fun z => d z.2), if_neg (fun z => d z.2), List.getElem?_eq_none (by omega), List.getElem?_eq_none (by omega)]
  · rw [if_neg (fun z => c z.1), if_neg (fun z => c z.1), h.2 i c, wipe_get, if_neg (fun z => c z.1)]
structure DCs (Z : Cz) (X : Cx) (ifs : List Expr) (t : DB) : Prop where
  mono : MonoT t
  run : PTs X ifs (liftB Z.P X.K Z.H0 Z.W0 t)
def dYes : DB := fun _ Q => Q true
theorem PTs.weak {ifs : List Expr} {t t' : TT} (h : PTs X ifs t) (w : ∀ σ H Q, t' σ H Q → t σ H Q) : PTs X ifs t' := ⟨fun pins s σ H Q I q => h.run pins s σ H Q I (w σ H Q q)⟩
theorem dcs_nil : DCs Z X [] dYes := ⟨fun _ _ _ _ hq q => hq _ _ q, PTs.weak pts_nil fun σ H Q q => by
  obtain ⟨W, ρ, S, q⟩ := q
  exact q W H (Fr0.refl S.same S.box) rfl⟩
theorem dcs_one {c : Expr} {t : DB} (h : DTs Z X c t) : DCs Z X [c] t := ⟨h.mono, pts_one h.run⟩
def dLcL (g : DTg) (tt : DB) (te : DT) (ρ : Rho) : List PV → List PV → (List PV → Pd) → Pd
  | [], acc, Q => Q acc
  | x :: xs, acc, Q => g x ρ fun ρ2 => tt ρ2 fun b => if b = true then te ρ2 fun y => dLcL g tt te ρ xs (acc ++ [y]) Q else dLcL g tt te ρ xs acc Q
theorem dLcL_mono {g : DTg} {tt : DB} {te : DT} (hg : MonoG g) (ht : MonoT tt) (he : MonoT te) {ρ : Rho} {Q Q' : List PV → Pd} (hq : ∀ p n, Q p n → Q' p n) : ∀ (xs acc : List PV) (n : Ck), dLcL g tt te ρ xs acc Q n → dLcL g tt te ρ xs acc Q' n
  | [], acc, n, q => hq _ _ q
  | x :: xs, acc, n, q => hg x ρ _ _ n (fun ρ2 n q => ht ρ2 _ _ n (fun b n q => by
      cases b with
      | true => rw [if_pos rfl] at q ⊢; exact he ρ2 _ _ n (fun y n q => dLcL_mono hg ht he hq xs _ n q) q
      | false => rw [if_neg Bool.false_ne_true] at q ⊢; exact dLcL_mono hg ht he hq xs _ n q) q) q
def nLc (ti : DIt) (g : DTg) (tt : DB) (te : DT) (vs : List Nat) : DN := fun ρ Q => ti ρ fun xs n => xs.length < sizeLine ∧ dLcL g tt te (wipeR ρ vs) xs [] Q n
theorem lift_lc {ti : DIt} {g : DTg} {tt : DB} {te : DT} {vs : List Nat} (hi : MonoT ti) (hg0 : MonoG g) (ht0 : MonoT tt) (he0 : MonoT te) {Q : VK} (q : ∃ W ρ, SR Z.P X.K Z.H0 Z.W0 W σ H ρ ∧ nLc ti g tt te vs ρ (TellN Z.P X.K W H Q) W.c) :
    tLc (fun σ H R => ∃ W ρ, SR Z.P X.K Z.H0 Z.W0 W σ H ρ ∧ ti ρ (fun xs n => ∀ J W' H', Fr0 Z.P X.K H W W' H' → W'.c = n → ItOk Z.P X.K W' J xs → R J H') W.c) (liftGn Z X.K vs g) (liftB Z.P X.K Z.H0 Z.W0 tt) (liftE Z.P X.K Z.H0 Z.W0 te) vs σ H Q := by
  obtain ⟨W, ρ, S, q⟩ := q
  refine ⟨W, ρ, S, hi ρ _ _ _ (fun xs n q J W1 H1 f1 c1 it Dl nD => ?_) q⟩
  subst c1
  obtain ⟨hsz, q⟩ := q
  obtain ⟨G, Y, wk, hG, hY⟩ := it
  have S1 := S.step f1
  obtain ⟨fl, nF, nB⟩ := Fr0.laid (o := .lst []) f1.sub f1.box nD
  refine lc_it wk (fun i H' => ∃ W' acc ws, Fr0 Z.P X.K H1 W1 W' H' ∧ H' Dl = some (.lst ws) ∧ RepL Z.P X.K W' acc ws ∧ W'.F Dl = none ∧ W'.B Dl = none ∧ acc.length ≤ i ∧ dLcL g tt te (wipeR ρ vs) (xs.drop i) acc (TellN Z.P X.K W H Q) W'.c)
    ⟨W1, [], [], fl, upd_same, RepL.nil, nF, nB, Nat.zero_le _, by rw [List.drop_zero]; exact q⟩ (fun i H' _ ⟨W', acc, ws, f, _⟩ => hG W' H' f.le f.sub) ?_ ?_
  · rintro i x H' H2 hi ⟨W', acc, ws, f, hD, rl, mF, mB, ha, q⟩ y
    obtain ⟨W2, p, ep, f2, c2, r2⟩ := hY i x H' H2 W' f.le f.sub f.box hi y
    rw [drop_of ep] at q
    have Sw : SR Z.P X.K Z.H0 Z.W0 W2 (L2.wipe σ vs) H2 (wipeR ρ vs) := ((S1.wipe vs).step f).step f2
    have stay : ∀ {Wa Wb : Wd} {Ha Hb : Hp}, Fr0 Z.P X.K Ha Wa Wb Hb → Ha Dl = some (.lst ws) → Wa.F Dl = none → Wa.B Dl = none → Hb Dl = some (.lst ws) ∧ Wb.F Dl = none ∧ Wb.B Dl = none := fun {Wa Wb Ha Hb} f h1 h2 h3 => by
      refine ⟨f.keep _ _ h1 h3, ?_, ?_⟩
      · cases e : Wb.F Dl with
        | none => rfl
        | some u => rcases f.freshF _ u e with z | z; rw [h2] at z; cases z; rw [h1] at z; cases z
      · cases e : Wb.B Dl with
        | none => rfl
        | some u => rcases f.freshB _ u e with z | z; rw [h3] at z; cases z; rw [h1] at z; cases z
    obtain ⟨hD2, mF2, mB2⟩ := stay f2 hD mF mB
    refine ⟨W2, wipeR ρ vs, p, Sw, r2, hg0 p _ _ _ _ (fun ρ2 n q cg σ2 S2 ag => ⟨wipe_agree ag, ?_⟩) (c2.symm ▸ q)⟩
    subst cg
    have S2 := S2 W2 H2 (Wle.refl _) Sw
    refine ⟨W2, ρ2, S2, ht0 ρ2 _ _ _ (fun b n q W3 H3 f3 c3 => ?_) q⟩
    subst c3
    obtain ⟨hD3, mF3, mB3⟩ := stay f3 hD2 mF2 mB2
    cases b with
    | true =>
      rw [if_pos rfl] at q ⊢
      refine ⟨W3, ρ2, S2.step f3, he0 ρ2 _ _ _ (fun y n q v W4 H4 f4 c4 r4 => ?_) q⟩
      subst c4
      obtain ⟨hD4, mF4, mB4⟩ := stay f4 hD3 mF3 mB3
      have f5 : Fr0 Z.P X.K H1 W1 W4 H4 := ((f.trans f2).trans f3).trans f4
      have l5 := RepL.mono ((f2.le.trans f3.le).trans f4.le) _ _ rl
      refine ⟨ws, hD4, by rw [← rl.length]; have := wk; omega, W4, acc ++ [y], ws ++ [v], ?_, upd_same, l5.append (RepL.cons r4 RepL.nil), mF4, mB4, by rw [List.length_append]; exact Nat.succ_le_succ ha, q⟩
      refine ⟨f5.le, fun z u hz => ?_, fun z u hz nz => ?_, f5.freshF, f5.freshB, fun z k hz => ?_, fun ev => ⟨(f5.bx ev).1, fun z k hz hk => ⟨((f5.bx ev).2 z k hz hk).1, by rw [upd_ne (fun c => by rw [c, mB4] at hz; cases hz)]; exact ((f5.bx ev).2 z k hz hk).2⟩⟩⟩
      · rw [upd_ne (fun c => by rw [c, mF4] at hz; cases hz)]; exact f5.sub z u hz
      · rw [upd_ne (fun c => by rw [c, nD] at hz; cases hz)]; exact f5.keep z u hz nz
      · obtain ⟨g1, u, g2, g3⟩ := f5.box z k hz
        exact ⟨g1, u, by rw [upd_ne (fun c => by rw [c, mB4] at hz; cases hz)]; exact g2, g3⟩
    | false =>
      rw [if_neg Bool.false_ne_true] at q ⊢
      exact ⟨W3, acc, ws, (f.trans f2).trans f3, hD3, RepL.mono (f2.le.trans f3.le) _ _ rl, mF3, mB3, Nat.le_succ_of_le ha, q⟩
  · rintro H' ⟨W', acc, ws, f, hD, rl, mF, mB, ha, q⟩
    rw [List.drop_length] at q
    exact q Dl ws W' H' (f1.trans f) rfl (f1.back S.box nD) hD mF mB rl
theorem dn_lc {elt tg iter : Expr} {ifs : List Expr} {scope : Scope} {ti : DIt} {g : DTg} {tt : DB} {te : DT} {vs : List Nat} (D : DX Z X Ex) (hN : X.N.Nodup) (hi : DI Z X tg iter ti) (hg0 : MonoG g) (ht0 : MonoT tt) (he0 : MonoT te)
    (hp : PE X (.ListComp elt [⟨tg, iter, ifs, 0⟩] scope pos) (tLc (fun σ H R => ∃ W ρ, SR Z.P X.K Z.H0 Z.W0 W σ H ρ ∧ ti ρ (fun xs n => ∀ J W' H', Fr0 Z.P X.K H W W' H' → W'.c = n → ItOk Z.P X.K W' J xs → R J H') W.c) (liftGn Z X.K vs g) (liftB Z.P X.K Z.H0 Z.W0 tt) (liftE Z.P X.K Z.H0 Z.W0 te) vs)) :
    DNw Z X (.ListComp elt [⟨tg, iter, ifs, 0⟩] scope pos) (nLc ti g tt te vs) := by
  refine ⟨fun ρ Q Q' n hq q => hi.mono ρ _ _ n (fun xs n q => ⟨q.1, dLcL_mono hg0 ht0 he0 hq xs [] n q.2⟩) q, PE.weak hp fun σ H Q q => lift_lc hi.mono hg0 ht0 he0 q⟩
theorem dx_blk {s : Shared} {H : Hp} {scope : Scope} {C : Addr} {cl : List (Str × Addr)} {fp : List Addr} (D : DX Z X Ex) : DX Z (X.blk s H scope (PySem.compEnvC scope cl C X.env) fp) (fun _ _ => False) :=
  ⟨pass_false, (takes0 (X := X.blk s H scope (PySem.compEnvC scope cl C X.env) fp)).imp fun c d σ H' q => exK_false q, PassesOwn.never, D.calm⟩
end
end DL
set_option maxRecDepth 100000
set_option maxHeartbeats 1000000
namespace DL
open PySem L2
section
variable {Z : Cz} {X : Cx} {P : Par} {K : PySem.W.Frag} {W : Wd} {H : Hp} {e a b o : Expr} {es : List Expr} {st : Stmt} {rest body : List Stmt} {pos p apos cpos p2 pos' : Pos} {ta tb te : DT} {tc : DB} {t u : DSt} {Ex : PX → Pd} {H0 : Hp} {W0 : Wd} {σ : L2.St} {ρ : Rho}
theorem putF_new {f : Str} {v : V} : ∀ {gs : List (Str × V)}, f ∉ gs.map (·.1) → putF f v gs = gs ++ [(f, v)]
  | [], _ => rfl
  | (g, w) :: gs, h => by
    simp only [List.map_cons, List.mem_cons, not_or] at h
    rw [show putF f v ((g, w) :: gs) = (if g = f then (g, v) :: gs else (g, w) :: putF f v gs) from rfl, if_neg (fun c => h.1 c.symm), putF_new h.2]
    rfl
def dSelfSet (i : Nat) (f : Str) (fn : Nat → List Str) (ok : Nat → Prop) (te : DT) : DSt := fun D ρ => te ρ fun p n => ∃ a c vs, ρ[i]? = some (.slf a c vs) ∧ ok c ∧ (fn c)[vs.length]? = some f ∧ D.nx (ρ.set i (.slf a c (vs ++ [p]))) n
theorem ds_self (i : Nat) {f : Str} {ok : Nat → Prop} {x : Str} {xp : Pos} (he : DE Z X e te) (hN : X.N[i]? = some x := by rfl) (hok : ∀ c, ok c → Cls X.K (Z.P.cm c) ∧ NoAttr X.K (Z.P.cm c) f ∧ (Z.P.fn c).Nodup ∧ (Z.P.fn c).length < 1000)
    (hv : Vis X.env.scope x := by first | exact Or.inl rfl | exact Or.inr (Or.inl rfl) | exact Or.inr (Or.inr rfl)) (hd : (x == ("__debug__" : Str)) = false := by decide)
    (hcd : (x == ("__classdict__" : Str)) = false := by decide)
    (hs : swapsWith e (some (.Attribute (.Name x xp) f pos')) pos.line X.env = pure false := by rfl) : DS Z X (.Assign [.Attribute (.Name x xp) f pos'] e pos) (dSelfSet i f Z.P.fn ok te) := by
  refine ⟨fun D D' ρ n l q => he.mono ρ _ _ n (fun p n q => let ⟨a, c, vs, e, o, g, q⟩ := q; ⟨a, c, vs, e, o, g, l.nx _ _ q⟩) q, PS.weak (ps_fld (pe_var hN hv hd hcd) he.run hs) fun D σ H q => ?_⟩
  obtain ⟨W, ρ, S, q⟩ := q
  refine ⟨W, ρ, S, he.mono ρ _ _ _ (fun p n q v W1 H1 f1 c1 r1 => ?_) q⟩
  obtain ⟨a, c, vs, e, o, g, q⟩ := q
  have S1 := S.step f1
  obtain ⟨dx, gs, ea, ha, hm, hl, rl, ow⟩ := S1.slots i _ e
  obtain ⟨o1, o2, o3, o4⟩ := hok c o
  have hlt : vs.length < (Z.P.fn c).length := (List.getElem?_eq_some_iff.mp g).1
  have hgl : gs.length = vs.length := by
    have := rl.length
    rw [List.length_map] at this
    exact this.symm
  have hnew : f ∉ gs.map (·.1) := by
    rw [hm]
    intro z
    obtain ⟨j, hj, ej⟩ := List.getElem_of_mem z
    rw [List.length_take] at hj
    obtain ⟨h1, h2⟩ := List.getElem?_eq_some_iff.mp g
    rw [List.getElem_take] at ej
    exact (List.pairwise_iff_getElem.1 o3 j vs.length (by omega) h1 (by omega)) (by rw [ej, h2])
  refine ⟨.ref a, ea, a, Z.P.cm c, dx, gs, rfl, ha, o1, o2, by omega, ?_⟩
  refine q W1 σ _ f1.le c1 (S1.mut (s' := .slf a c (vs ++ [p])) e rfl ea ow ⟨dx, gs ++ [(f, v)], rfl, by rw [upd_same, putF_new hnew], ?_, by rw [List.length_append]; exact hlt, ?_, ow⟩)
  · rw [List.map_append, hm, List.length_append]
    show _ = List.take (vs.length + 1) (Z.P.fn c)
    rw [List.take_add_one, g]
    rfl
  · rw [List.map_append]
    exact rl.append (RepL.cons r1 RepL.nil)
def dSelf (i : Nat) (f : Str) (fn : Nat → List Str) (ok : Nat → Prop) : DT := fun ρ Q n => ∃ a c vs k v, ρ[i]? = some (.slf a c vs) ∧ ok c ∧ idx f (fn c) = some k ∧ vs[k]? = some v ∧ Q v n
def dBits (te : DT) : DT := fun ρ Q => te ρ fun x n => ∃ i, x = .int i ∧ Q (.int (Builtin.Int.intBits i : Nat)) n
theorem de_bits (ho : DE Z X o te) (hbase : attributeBase o "bit_length" X.env (eval o X.env) = eval o X.env := by rfl) (hline : (apos.endLine == pos.line) = true := by rfl) : DE Z X (.Call (.Attribute o "bit_length" apos) [] [] pos) (dBits te) := by
  refine ⟨fun ρ Q Q' n hq q => ho.mono ρ _ _ n (fun x n q => let ⟨i, e, q⟩ := q; ⟨i, e, hq _ _ q⟩) q, PE.weak (pe_bits ho.run hbase hline) fun σ H Q q => ?_⟩
  obtain ⟨W, ρ, S, q⟩ := q
  refine ⟨W, ρ, S, ho.mono ρ _ _ _ (fun x n q v W1 H1 f1 c1 r1 => ?_) q⟩
  obtain ⟨i, rfl, q⟩ := q
  rw [rep_int] at r1
  exact ⟨i, r1, q _ W1 H1 f1 c1 (rep_int.2 rfl)⟩
def dIndex (to te : DT) : DT := fun ρ Q => to ρ fun x n => ∃ xs, x = .lst xs ∧ te ρ (fun y n => ∃ j z, y.okD 50 = true ∧ PV.okDs 50 xs = true ∧ xs[j]? = some z ∧ peq z y = true ∧ (∀ m z', m < j → xs[m]? = some z' → peq z' y = false) ∧ Q (.int (j : Nat)) n) n
structure SMet (K : PySem.W.Frag) (C : Addr) (m : Str) (p g : Addr) : Prop where
  rd : PySem.W.readsIn K C (.type "type") = true
  ga : PySem.W.specialIn K (.ref C) "__getattribute__" = some (some (.builtin "type.__getattribute__"))
  at_ : PySem.W.findCls K (.ref C) (.type "type") m = some (.get (.builtin "staticmethod.__get__") (.ref p) .none (.ref C))
  rc : ∃ rest, PySem.W.recIn K p "staticmethod" = some (.ref g :: rest)
  kp : PySem.W.keepIn K (.ref g) = true
def dSM (D : DSp) (dps : List PV) (Ex : PX → Pd) (t : DA) : DT := fun ρ Q => t ρ fun ps => D (ps ++ dps) Q Ex
end
end DL
set_option maxRecDepth 100000
set_option maxHeartbeats 1000000
namespace DL
open PySem L2
section
variable {Zp : Par} {P : Program} {w : World} {K : PySem.W.Frag} {mg : Str → Option Value} {base : Heap}
theorem fnID {x qual : Str} {st : Stmt} {f : Addr} {fd : FuncData} {N ps : List Str} {k c : Nat} {D : DSi} {dvs : List V} {kws : List (Str × V)} (F : FunD K x qual (defArgs st) (defBody st) (defScope st) dvs kws f fd) (S : FnScope N ps (defScope st)) (m : MonoSi D) (len : ∀ vs Q E n, D vs Q E n → vs.length + 1 = ps.length) (hN : 0 < N.length)
    (body : ∀ (cdv : Value) (A : Around) (outer : List Env) (s : Shared) (H Hb : Hp) (E : XK) (W : Wd) (Ex : PX → Pd), Room k (A.deeper (PyProof.Rows.envOfC qual (defScope st) s.heap.objs.size f cdv)) →
      DX ⟨Zp, Hb, W⟩ (cxF P w K mg base N qual (defScope st) f cdv A outer s H E) Ex → ∀ (x : Addr) (vs : List PV) (Q : List PV → Pd), D vs Q Ex W.c →
      ∃ t, DSs ⟨Zp, Hb, W⟩ (cxF P w K mg base N qual (defScope st) f cdv A outer s H E) (defBody st) t ∧ t { nx := fun ρ n => ∃ fs, ρ[0]? = some (.slf x c fs) ∧ fs.length = (Zp.fn c).length ∧ Q fs n, rt := fun _ _ => False, bk := fun _ _ => False, ct := fun _ _ => False } (istart N.length x c vs) W.c) :
    FnI Zp P w K mg base (k + 1) f fd ps c D := by
  refine ⟨m, F.ok S (fun vs H Q E h => ?_) (fun cdv A outer s H vs Q E hr h => ?_)⟩
  · obtain ⟨Hb, W, qs, x, dx, us, rfl, _, _, _, _, _, _, r, q⟩ := h
    rw [List.length_cons, ← r.length]; exact len _ _ _ _ q
  · obtain ⟨Hb, W, qs, x, dx, us, rfl, rfl, nx, nd, ne, sm, bx, r, q⟩ := h
    have dx' : DX ⟨Zp, Hb, W⟩ (cxF P w K mg base N qual (defScope st) f cdv A outer s (insH Hb x dx (Zp.cm c)) E) (upX Zp K Hb W E) := dx_of fun x n h => h
    obtain ⟨t, ht, q⟩ := body cdv A outer s _ Hb E W _ hr dx' x qs _ q
    refine ⟨_, ht.run, W, _, sr_init nx nd sm bx r hN, ht.mono { nx := fun ρ n => ∃ fs, ρ[0]? = some (.slf x c fs) ∧ fs.length = (Zp.fn c).length ∧ _, rt := fun _ _ => False, bk := fun _ _ => False, ct := fun _ _ => False } _ _ _ ⟨fun ρ n q W' σ' H' l cc S' => ?_, fun _ _ z => z.elim, fun _ _ z => z.elim, fun _ _ z => z.elim⟩ q⟩
    obtain ⟨fs, e0, hl, q⟩ := q
    obtain ⟨dx2, gs, e1, h1, n, _, rl, ow⟩ := S'.slots 0 _ e0
    exact q W' H' S'.fr cc ⟨dx2, gs, h1, by rw [n, hl, List.take_length], rl, ow⟩
end
section
variable {Z : Cz} {X : Cx} {e a b o : Expr} {es : List Expr} {pos p apos : Pos} {ta tb te : DT} {t : DA} {Ex : PX → Pd} {k c : Nat} {f C g q : Addr} {fd : FuncData} {ps : List Str} {D : DSp} {Di : DSi} {x m : Str} {dps : List PV} {dvs : List V} {ds : List Value}
theorem de_fn (F : FnD Z.P X.prog X.w X.K X.mg X.base k f fd ps D) (hr : Room k X.A) (hm : X.mg x = some (.ref f)) (hk : PySem.W.keepIn X.K (.ref f) = true) (hb : Binds X.K fd ps []) (dx : DX Z X Ex) (ha : DAs Z X (e :: es) t) (hg : Gl X x := by rfl)
    (hdb : (x == ("__debug__" : Str)) = false := by decide) (he : starEach (e :: es) X.env = (false, eval e X.env) :: starEach es X.env := by rfl) (hpl : (backTo pos (starEach es X.env)).any (·.1) = false := by rfl) : DE Z X (.Call (.Name x p) (e :: es) [] pos) (dCall D [] Ex t) :=
  de_call F.mono ha no_dps fun h => pe_call F.ok hr hg hm hk hb .nil dx.hx h hdb he hpl
theorem de_fn0 (F : FnD Z.P X.prog X.w X.K X.mg X.base k f fd ps D) (hr : Room k X.A) (hm : X.mg x = some (.ref f)) (hk : PySem.W.keepIn X.K (.ref f) = true) (hb : Binds X.K fd ps []) (dx : DX Z X Ex) (hg : Gl X x := by rfl)
    (hdb : (x == ("__debug__" : Str)) = false := by decide) : DE Z X (.Call (.Name x p) [] [] pos) (dCall D [] Ex dNil) :=
  de_call0 F.mono no_dps (pe_call0 F.ok hr hg hm hk hb .nil dx.hx hdb)
theorem de_mkD (F : FnI Z.P X.prog X.w X.K X.mg X.base k f fd ps c Di) (M : Mk X.K (Z.P.cm c) f) (hr : Room (k + 1) X.A) (hm : X.mg x = some (.ref (Z.P.cm c))) (hb : ∃ ds, Vals dvs ds ∧ Binds X.K fd ps ds) (dx : DX Z X Ex) (ha : DAs Z X (e :: es) t) (hd : ∀ W, RepL Z.P X.K W dps dvs) (hg : Gl X x := by rfl)
    (hdb : (x == ("__debug__" : Str)) = false := by decide) (he : starEach (e :: es) X.env = (false, eval e X.env) :: starEach es X.env := by rfl) (hpl : (backTo pos (starEach es X.env)).any (·.1) = false := by rfl) : DE Z X (.Call (.Name x p) (e :: es) [] pos) (dMake c Di dps Ex t) :=
  let ⟨_, hv, hb⟩ := hb
  de_make F.mono ha hd fun h => pe_make M F.ok hr hg hm hb hv dx.hx h hdb he hpl
theorem de_pr (ho : DE Z X o ta) (cl : Cls X.K (Z.P.cm c)) (hp : PropOf X.K (Z.P.cm c) m q g) (F : FnD Z.P X.prog X.w X.K X.mg X.base k g fd ps D) (hr : Room (k + 1) X.A) (hb : Binds X.K fd ps []) (hab : attributeBase o m X.env (eval o X.env) = eval o X.env := by rfl) : DE Z X (.Attribute o m pos) (dProp c D ta) :=
  de_prop F.mono ho fun h => pe_prop h cl hp F.ok hr hb .nil pass_false hab
end
end DL
set_option maxRecDepth 100000
set_option maxHeartbeats 1000000
namespace DL
open PySem L2
section
variable {Z : Cz} {X : Cx} {P : Par} {K : PySem.W.Frag} {W : Wd} {H : Hp} {e a b o : Expr} {es : List Expr} {st : Stmt} {rest body : List Stmt} {pos p apos cpos p2 pos' xp : Pos} {ta tb te : DT} {tc : DB} {t u : DSt} {Ex : PX → Pd} {H0 : Hp} {W0 : Wd} {σ : L2.St} {ρ : Rho}
def gF (c k : Nat) : G1 := fun x Q n => ∃ vs, isIns x n c vs ∧ ∃ v, vs[k]? = some v ∧ Q v n
theorem gF_mono {c k : Nat} : MonoG1 (gF c k) := fun x Q Q' n hq ⟨vs, e, v, g, q⟩ => ⟨vs, e, v, g, hq _ _ q⟩
theorem idx_takeM {f : Str} : ∀ {l : List Str} {k m : Nat}, idx f l = some k → k < m → idx f (l.take m) = some k
  | [], _, _, e, _ => by simp [idx] at e
  | g :: l, k, 0, e, h => by omega
  | g :: l, k, m + 1, e, h => by
    rw [List.take_succ_cons]
    unfold idx at e ⊢
    by_cases c : f = g
    · rw [if_pos c] at e ⊢; exact e
    · rw [if_neg c] at e ⊢
      cases e2 : idx f l with
      | none => rw [e2] at e; cases e
      | some j =>
        rw [e2] at e
        simp only [Option.map_some, Option.some.injEq] at e
        rw [idx_takeM e2 (show j < m by omega)]
        simp only [Option.map_some, Option.some.injEq]; exact e
theorem de_f (c k : Nat) {f : Str} (he : DE Z X e te) (hx : idx f (Z.P.fn c) = some k) (cl : Cls X.K (Z.P.cm c)) (na : NoAttr X.K (Z.P.cm c) f) (hb : attributeBase e f X.env (eval e X.env) = eval e X.env := by rfl) : DE Z X (.Attribute e f pos) (dUn (gF c k) te) := by
  refine ⟨dUn_mono gF_mono he.mono, PE.weak (pe_fld he.run hb) fun σ H Q q => ?_⟩
  obtain ⟨W, ρ, S, q⟩ := q
  refine ⟨W, ρ, S, he.mono ρ _ _ _ (fun x n q v W1 H1 f1 c1 r1 => ?_) q⟩
  subst c1
  obtain ⟨vs, hi, u, g, q⟩ := q
  obtain ⟨a, dx, gs, rfl, hH, nn, l⟩ : ∃ a dx gs, v = .ref a ∧ H1 a = some (.ins (Z.P.cm c) dx gs) ∧ idx f (gs.map (·.1)) = some k ∧ RepL Z.P X.K W1 vs (gs.map (·.2)) := by
    rcases hi with rfl | ⟨j, rfl, hj⟩
    · rw [rep_ins] at r1
      obtain ⟨a, dx, gs, rfl, h1, nn, l⟩ := r1
      exact ⟨a, dx, gs, rfl, f1.sub _ _ h1, by rw [nn]; exact hx, l⟩
    · obtain ⟨a, dx, gs, rfl, _, h1, nn, l0, l⟩ := box_ins f1.box r1 hj
      refine ⟨a, dx, gs, rfl, h1, ?_, l⟩
      rw [nn]
      exact idx_takeM hx (List.getElem?_eq_some_iff.mp g).1
  obtain ⟨w, e2, r2⟩ := l.get g
  exact ⟨a, _, dx, gs, w, rfl, hH, cl, na, idx_lookup nn e2, q w W1 H1 f1 rfl r2⟩
def PV.isNon : PV → Option Bool
  | .non => some true
  | .raw _ => none
  | _ => some false
def gIsN (neg : Bool) : G2 := fun x y Q n => y = .non ∧ ∃ b, x.isNon = some b ∧ Q (.bl (if neg then !b else b)) n
theorem ds_app (i : Nat) {x : Str} (he : DE Z X e te) (hN : X.N[i]? = some x := by rfl) (hv : Vis X.env.scope x := by first | exact Or.inl rfl | exact Or.inr (Or.inl rfl) | exact Or.inr (Or.inr rfl)) (hd : (x == ("__debug__" : Str)) = false := by decide)
    (hcd : (x == ("__classdict__" : Str)) = false := by decide) (hbase : attributeBase (.Name x xp) "append" X.env (eval (.Name x xp) X.env) = eval (.Name x xp) X.env := by rfl)
    (hfew : ((backTo cpos (starEach [e] X.env)).all (fun x => !x.1) && (backToKw cpos (keywordEach [] X.env)).all (fun x => x.1.isSome)
      && decide (([e] : List Expr).length + ([] : List Keyword).length + (if ([] : List Keyword).isEmpty then 0 else 1) < 30)) = true := by rfl)
    (hline : (apos.endLine == cpos.line) = true := by rfl) (hs : starEach [e] X.env = (false, eval e X.env) :: starEach [] X.env := by rfl) (hplain : (backTo cpos (starEach [] X.env)).any (·.1) = false := by rfl)
    (hsw : swapsWith (.Call (.Attribute (.Name x xp) "append" apos) [e] [] cpos) none pos.line X.env = pure false := by rfl) :
    DS Z X (.Expr (.Call (.Attribute (.Name x xp) "append" apos) [e] [] cpos) pos) (fun D ρ => onOwn i ρ fun _ => dApnd i te D ρ) :=
  ds_append (x := x) (xp := xp) i he (fun h => ps_expr (pe_bm PySem.F.plainAttrs_list PySem.F.slot_list_append PySem.F.type_list_append mt_append (pe_var hN hv hd hcd) h hbase hfew hline hs hplain) hsw) hs
end
end DL
namespace DL
open PySem L2
section
variable {Z : Cz} {X : Cx} {elt tg iter : Expr} {ifs : List Expr} {scope : Scope} {own : List (Str × Nat)} {pos spos py : Pos} {ti : DIt} {g : DTg} {tt : DB} {te : DT} {Ex : PX → Pd}
def Inner (Z : Cz) (X : Cx) (scope : Scope) (tg : Expr) (ifs : List Expr) (elt : Expr) (vs : List Nat) (g : DTg) (tt : DB) (te : DT) : Prop :=
  ∀ (s : Shared) (H : Hp) (C : Addr) (cl : List (Str × Addr)) (fp : List Addr), DX Z (X.blk s H scope (PySem.compEnvC scope cl C X.env) fp) (fun _ _ => False) →
    DGn Z (X.blk s H scope (PySem.compEnvC scope cl C X.env) fp) tg vs g ∧ DCs Z (X.blk s H scope (PySem.compEnvC scope cl C X.env) fp) ifs tt ∧ DE Z (X.blk s H scope (PySem.compEnvC scope cl C X.env) fp) elt te
theorem dn_comp (s0 : Shared) (D : DX Z X Ex) (hN : X.N.Nodup) (hi : DI Z X tg iter ti) (ok : BlkOk X.N X.env.scope scope own) (hb : Inner Z X scope tg ifs elt (own.map (·.2)) g tt te) (hs : ∀ x, foldedSetIterable iter X.env x = pure x := by intro _; rfl) :
    DNw Z X (.ListComp elt [⟨tg, iter, ifs, 0⟩] scope pos) (nLc ti g tt te (own.map (·.2))) := by
  obtain ⟨h1, h2, h3⟩ := hb s0 (fun _ => none) 0 [] [] (dx_blk D)
  exact dn_lc D hN hi h1.mono h2.mono h3.mono (pe_lc (g := liftGn Z X.K (own.map (·.2)) g) (tt := liftB Z.P X.K Z.H0 Z.W0 tt) (te := liftE Z.P X.K Z.H0 Z.W0 te) D.calm hN hi.run ok (fun s H C cl fp => (hb s H C cl fp (dx_blk D)).1.run) (fun s H C cl fp => (hb s H C cl fp (dx_blk D)).2.1.run) (fun s H C cl fp => (hb s H C cl fp (dx_blk D)).2.2.run) hs)
end
end DL
namespace DL
open PySem L2
section
variable {Z : Cz} {X : Cx} {a b : Expr} {pos : Pos} {Ex : PX → Pd}
theorem ds_par2 (i j : Nat) {x y : Str} {ta : DA} {px py pt : Pos} {kt k2 pt2} (D : DX Z X Ex) (hN : X.N.Nodup) (ha : DAs Z X [a, b] ta) (hi : X.N[i]? = some x := by rfl) (hj : X.N[j]? = some y := by rfl) (hij : i ≠ j := by decide)
    (hx : X.env.scope.names.lookup x = some .local := by rfl) (hy : X.env.scope.names.lookup y = some .local := by rfl)
    (hw : swappedStores [.Tuple [.Name x px, .Name y py] kt pt] (.Tuple [a, b] k2 pt2) X.env = pure (some [x, y]) := by rfl)
    (hs : swapsWithSole [.Tuple [.Name x px, .Name y py] kt pt] (.Tuple [a, b] k2 pt2) pos.line X.env = pure false := by rfl) :
    DS Z X (.Assign [.Tuple [.Name x px, .Name y py] kt pt] (.Tuple [a, b] k2 pt2) pos) (dPar i j ta) :=
  ds_par i j D hN hi hj hij hx hy ha (ps_par D.calm hN hi hj hij hx hy ha.run hw hs)
end
def BIA (k : Nat) (B : Addr → Option Nat) (c : Nat) (o : HO) : Prop := match k with
  | 0 => ∃ a i r m, o = .lst [.ref a, .int i, .int r, .int m] ∧ B a = some 1 ∧ 0 ≤ i ∧ 0 ≤ m ∧ m ≤ (c : Int)
  | 1 => ∃ ns : List Int, o = .lst (ns.map V.int)
  | 2 => ∃ r f m, o = .lst [.int r, .int f, .int m] ∧ 0 ≤ m ∧ m ≤ (c : Int)
  | 3 => ∃ a m, o = .lst [.ref a, .int m] ∧ B a = some 4 ∧ 0 ≤ m ∧ m ≤ (c : Int)
  | 4 => ∃ ns : List Int, o = .lst (ns.map V.int) ∧ ns ≠ []
  | _ => False
theorem BIA_mono (k : Nat) (B B' : Addr → Option Nat) (c c' : Nat) (o : HO) (h : ∀ a j, B a = some j → B' a = some j) (hc : c ≤ c') (q : BIA k B c o) : BIA k B' c' o := by
  match k, q with
  | 0, ⟨a, i, r, m, e, b, h1, h2, h3⟩ => exact ⟨a, i, r, m, e, h _ _ b, h1, h2, by omega⟩
  | 1, q => exact q
  | 2, ⟨r, f, m, e, h1, h2⟩ => exact ⟨r, f, m, e, h1, by omega⟩
  | 3, ⟨a, m, e, b, h1, h2⟩ => exact ⟨a, m, e, h _ _ b, h1, by omega⟩
  | 4, q => exact q
def D_start : DSp := fun vs Q E n => ∃ ns : List Int, vs = [.scr (ns.map .int)] ∧ ns.length ≤ 1000 ∧ Q (.box 0) n
def D_drawP (b : Nat) : DSp := fun vs Q E n => ∃ m : Int, vs = [.box b, .int m] ∧ 0 < m ∧ m.natAbs.log2 < 9000 ∧ n.n < 100000 ∧ ∀ r : Nat, (r : Int) < m → Q (.int r) (n.tick 1)
abbrev D_draw : DSp := D_drawP 0
theorem D_start_mono : MonoSp D_start := fun vs Q Q' E E' n hq he ⟨ns, e, l, q⟩ => ⟨ns, e, l, hq _ _ q⟩
theorem D_drawP_mono {b : Nat} : MonoSp (D_drawP b) := fun vs Q Q' E E' n hq he ⟨m, e, h0, h1, h2, q⟩ => ⟨m, e, h0, h1, h2, fun r hr => hq _ _ (q r hr)⟩
theorem D_draw_mono : MonoSp D_draw := D_drawP_mono
def ck0 : Ck := ⟨0, fun _ => none, 0, 0⟩
def D_law : DSp := fun vs Q E n => ∃ ns : List Int, vs = [.scr (ns.map .int)] ∧ ns.length ≤ 63 ∧ n = ck0 ∧ ∀ n, Q (.bl true) n
theorem D_law_mono : MonoSp D_law := fun vs Q Q' E E' n hq he ⟨ns, e, l, z, q⟩ => ⟨ns, e, l, z, fun n => hq _ _ (q n)⟩
theorem repL_ints {P : Par} {K : PySem.W.Frag} {W : Wd} : ∀ ns : List Int, RepL P K W (ns.map .int) (ns.map V.int)
  | [] => RepL.nil
  | n :: ns => RepL.cons (rep_int.2 rfl) (repL_ints ns)
theorem law_lift {P : Par} {K : PySem.W.Frag} {H : Hp} {a : Addr} {ns : List Int} (hl : ns.length ≤ 63) (hS : SqL K H a (ns.map V.int)) : liftSp P K D_law [.ref a] H (fun v _ => v = .bl true) (fun _ _ _ => False) := by
  let W0 : Wd := ⟨H, fun _ => none, ck0, fun _ _ _ h => (by cases h), fun _ _ h => (by cases h)⟩
  have r0 : Rep P K W0 (.scr (ns.map .int)) (.ref a) := rep_scr.2 ⟨a, _, rfl, hS, repL_ints ns⟩
  have b0 : BoxOk P K W0 H := fun _ _ h => by cases h
  refine ⟨W0, [.scr (ns.map .int)], Same.refl H, b0, RepL.cons r0 RepL.nil, ns, rfl, hl, rfl, fun n v W' H' _ _ r => ?_⟩
  rw [rep_bl] at r; exact r
theorem cx_none {P : Program} {w : World} {H : Hp} {s : Shared} {e : Value} {s' : Shared} (z : L2.CX P w [] H s (fun _ _ _ => False) e s') : False := by
  obtain ⟨a, B, h1, h2, h3, h4, h5, h6, h7, h8, h9, h10, z⟩ := z
  exact z
end DL
namespace DL
open PySem L2
theorem bt_len : bootBuiltins "len" = some (.builtin "len") := by decide +kernel
theorem bt_int : bootBuiltins "int" = some (.type "int") := by decide +kernel
theorem bt_list : bootBuiltins "list" = some (.type "list") := by decide +kernel
theorem bt_min : bootBuiltins "min" = some (.builtin "min") := by decide +kernel
theorem bt_sum : bootBuiltins "sum" = some (.builtin "sum") := by decide +kernel
end DL
namespace DL
open PySem L2
abbrev parA (cm : Nat → Addr) (fn : Nat → List Str) : Par := ⟨cm, fn, BIA, BIA_mono⟩
theorem Fr0.pen2 {cm : Nat → Addr} {fn : Nat → List Str} {W : Wd} {H : Hp} {l p : Addr} {ol op : HO} {ki kp : Nat} (sm : Same W.F H) (bx : BoxOk (parA cm fn) K W H) (hki : ki < 10) (hkp : kp < 10) (hl : H l = none) (hp0 : H p = none) (nlp : p ≠ l)
    (bi : ∀ B, BIA ki B W.c.n ol) (bp : ∀ B : Addr → Option Nat, B l = some ki → BIA kp B W.c.n op) : ∃ W' : Wd, W'.c = W.c ∧ W'.B p = some kp ∧ Fr0 (parA cm fn) K H W W' (upd (upd H l ol) p op) := by
  have nB : ∀ a, H a = none → W.B a = none := fun a ha => by
    cases e : W.B a with
    | none => rfl
    | some k => obtain ⟨_, u, h, _⟩ := bx a k e; rw [ha] at h; cases h
  have bl : ∀ a k, W.B a = some k → a ≠ l ∧ a ≠ p := fun a k h => ⟨fun c => (by rw [c, nB l hl] at h; cases h), fun c => (by rw [c, nB p hp0] at h; cases h)⟩
  have old : ∀ a k, W.B a = some k → (if a = p then some kp else if a = l then some ki else W.B a) = some k := fun a k h => by
    rw [if_neg (bl a k h).2, if_neg (bl a k h).1]; exact h
  have new : ∀ a k, (if a = p then some kp else if a = l then some ki else W.B a) = some k → (a = p ∧ k = kp) ∨ (a = l ∧ k = ki) ∨ W.B a = some k := fun a k h => by
    by_cases c : a = p
    · rw [if_pos c] at h; exact .inl ⟨c, (Option.some.inj h).symm⟩
    · rw [if_neg c] at h
      by_cases c2 : a = l
      · rw [if_pos c2] at h; exact .inr (.inl ⟨c2, (Option.some.inj h).symm⟩)
      · rw [if_neg c2] at h; exact .inr (.inr h)
  let W' : Wd := ⟨W.F, fun a => if a = p then some kp else if a = l then some ki else W.B a, W.c, fun a a' k h h' hk => by
      rcases new a k h with ⟨_, e⟩ | ⟨_, e⟩ | e
      · omega
      · omega
      · rcases new a' k h' with ⟨_, e'⟩ | ⟨_, e'⟩ | e'
        · omega
        · omega
        · exact W.inj a a' k e e' hk, fun a k h => by
      rcases new a k h with ⟨_, e⟩ | ⟨_, e⟩ | e
      · omega
      · omega
      · exact W.bd a k e⟩
  have le : Wle W W' := ⟨fun _ _ h => h, fun a k h => old a k h, Ck.le_refl _⟩
  refine ⟨W', rfl, by show (if p = p then some kp else _) = _; rw [if_pos rfl], le, fun a u h => ?_, fun a u h _ => ?_, fun a u h => .inl h, fun a k h => ?_, fun a k h => ?_, fun _ => ⟨rfl, fun a k h hk => ?_⟩⟩
  · rw [upd_ne (ne_of_none (sm a u h) hp0), upd_ne (ne_of_none (sm a u h) hl)]; exact sm a u h
  · rw [upd_ne (ne_of_none h hp0), upd_ne (ne_of_none h hl)]; exact h
  · rcases new a k h with ⟨e, _⟩ | ⟨e, _⟩ | e
    · subst e; exact .inr hp0
    · subst e; exact .inr hl
    · exact .inl e
  · rcases new a k h with ⟨rfl, rfl⟩ | ⟨rfl, rfl⟩ | e
    · refine ⟨none_of_same sm hp0, _, upd_same, .inl ⟨hkp, bp _ ?_⟩⟩
      show (if l = a then some k else if l = l then some ki else W.B l) = some ki
      rw [if_neg (Ne.symm nlp), if_pos rfl]
    · exact ⟨none_of_same sm hl, _, by rw [upd_ne (Ne.symm nlp), upd_same], .inl ⟨hki, bi _⟩⟩
    · obtain ⟨h1, u, h2, h3⟩ := bx a k e
      exact ⟨h1, u, by rw [upd_ne (bl a k e).2, upd_ne (bl a k e).1]; exact h2, h3.mono le rfl⟩
  · rcases new a k h with ⟨_, e⟩ | ⟨_, e⟩ | e
    · omega
    · omega
    · exact ⟨e, by rw [upd_ne (bl a k e).2, upd_ne (bl a k e).1]⟩
theorem start_fin {cm : Nat → Addr} {fn : Nat → List Str} {K : PySem.W.Frag} {W : Wd} {H : Hp} {Q : VK} {ns : List Int} (sm : Same W.F H) (bx : BoxOk (parA cm fn) K W H) (q : Tell (parA cm fn) K W H Q (.box 0) W.c) (f : Int) :
    ∀ l, H l = none → ∀ p, (upd H l (.lst (ns.map V.int))) p = none → Q (.ref p) (upd (upd H l (.lst (ns.map V.int))) p (.lst [.ref l, .int 1, .int f, .int 0])) := by
  intro l hl p hp
  have nlp : p ≠ l := fun c => by rw [c, upd_same] at hp; cases hp
  have hp0 : H p = none := by rw [upd_ne nlp] at hp; exact hp
  obtain ⟨W', ec, eb, F⟩ := Fr0.pen2 (ki := 1) (kp := 0) (ol := .lst (ns.map V.int)) (op := .lst [.ref l, .int 1, .int f, .int 0]) sm bx (by decide) (by decide) hl hp0 nlp (fun _ => ⟨ns, rfl⟩) (fun B hB => ⟨l, 1, f, 0, rfl, hB, by decide, by decide, by omega⟩)
  exact q _ W' _ F ec (rep_box.2 ⟨p, rfl, eb⟩)
end DL
namespace DL
open PySem L2
theorem Fr0.pens {cm : Nat → Addr} {fn : Nat → List Str} {W : Wd} {H H' : Hp} (sm : Same W.F H) (bx : BoxOk (parA cm fn) K W H) (hch : ∀ x, (∀ k, W.B x = some k → 10 ≤ k) → H' x = H x)
    (hbi : ∀ x k, W.B x = some k → k < 10 → ∃ o, H' x = some o ∧ BIA k W.B (W.c.n + 1) o) : Fr0 (parA cm fn) K H W ⟨W.F, W.B, W.c.tick 1, W.inj, W.bd⟩ H' := by
  have le : Wle W ⟨W.F, W.B, W.c.tick 1, W.inj, W.bd⟩ := ⟨fun _ _ h => h, fun _ _ h => h, ⟨Nat.le_succ _, Nat.le_refl _, Nat.le_refl _⟩⟩
  refine ⟨le, fun x u h => ?_, fun x u h n => ?_, fun x u h => .inl h, fun x k h => .inl h, fun x k h => ?_, fun _ => ⟨rfl, fun x k h hk => ⟨h, hch x fun j hj => by rw [show W.B x = some k from h] at hj; cases hj; exact hk⟩⟩⟩
  · rw [hch x fun k hk => ?_]
    · exact sm x u h
    · obtain ⟨z, _⟩ := bx x k hk
      have h' : W.F x = some u := h
      rw [z] at h'; cases h'
  · rw [hch x fun k hk => by rw [n] at hk; cases hk]; exact h
  · obtain ⟨g1, u, g2, g3⟩ := bx x k h
    by_cases c : k < 10
    · obtain ⟨o, ho, hb⟩ := hbi x k h c
      exact ⟨g1, o, ho, .inl ⟨c, hb⟩⟩
    · refine ⟨g1, u, by rw [hch x fun j hj => by rw [show W.B x = some k from h] at hj; cases hj; omega]; exact g2, ?_⟩
      rcases g3 with ⟨g, _⟩ | ⟨g, ob, e, r⟩
      · omega
      · exact .inr ⟨g, ob, e, r.mono le⟩
theorem draw_fin {cm : Nat → Addr} {fn : Nat → List Str} {W : Wd} {H H' : Hp} {st a : Addr} {i r m : Int} (sm : Same W.F H) (bx : BoxOk (parA cm fn) K W H) (hb : W.B st = some 0) (ha : W.B a = some 1)
    (h1 : ∀ x, x ≠ st → H' x = H x) (h2 : H' st = some (.lst [.ref a, .int i, .int r, .int m])) (hi : 0 ≤ i) (hm0 : 0 ≤ m) (hm : m ≤ (W.c.n : Int) + 1) : Fr0 (parA cm fn) K H W ⟨W.F, W.B, W.c.tick 1, W.inj, W.bd⟩ H' := by
  refine Fr0.pens sm bx (fun x hx => h1 x fun e => ?_) (fun x k hk hk2 => ?_)
  · have := hx 0 (by rw [e]; exact hb); omega
  · obtain ⟨g1, u, g2, g3⟩ := bx x k hk
    by_cases c : x = st
    · subst c
      rw [hb] at hk; cases hk
      exact ⟨_, h2, a, i, r, m, rfl, ha, hi, hm0, by omega⟩
    · rcases g3 with ⟨_, g3⟩ | ⟨g, _⟩
      · exact ⟨u, by rw [h1 x c]; exact g2, BIA_mono k _ _ _ _ _ (fun _ _ z => z) (Nat.le_succ _) g3⟩
      · omega
theorem at_zero {α : Type} (x : α) (xs : List α) : L2.atI (x :: xs) 0 = some x := by simp [L2.atI, ixN]
end DL
namespace DL
open PySem L2
theorem loop_list {g : DTg} {b : DSt} {D : DEnds} (xs : List PV) (I : Nat → Rho → Pd) {ρ : Rho} {n : Ck} (h0 : I 0 ρ n)
    (step : ∀ (i : Nat) (x : PV) (ρ : Rho) (n : Ck) (Nx : Rho → Pd), xs[i]? = some x → I i ρ n → (∀ ρ' n', I (i + 1) ρ' n' → Nx ρ' n') → g x ρ (fun ρ' => b { nx := Nx, ct := Nx, bk := D.nx, rt := D.rt } ρ') n)
    (fin : ∀ ρ n, I xs.length ρ n → D.nx ρ n) : dLoop g b D xs ρ n := by
  have key : ∀ (ys : List PV) (i : Nat), i ≤ xs.length → xs.drop i = ys → ∀ ρ n, I i ρ n → dLoop g b D ys ρ n := by
    intro ys
    induction ys with
    | nil =>
      intro i hle hi ρ n h
      have hl : xs.length ≤ i := List.drop_eq_nil_iff.1 hi
      have c : i = xs.length := by omega
      subst c; exact fin ρ n h
    | cons y ys ih =>
      intro i hle hi ρ n h
      have hx : xs[i]? = some y := by
        have : (xs.drop i)[0]? = some y := by rw [hi]; rfl
        rw [List.getElem?_drop] at this
        simpa using this
      refine step i y ρ n _ hx h (fun ρ' n' h' => ih (i + 1) (List.getElem?_eq_some_iff.mp hx).1 ?_ ρ' n' h')
      rw [← List.drop_drop, hi]; rfl
  exact key xs 0 (Nat.zero_le _) (by simp) ρ n h0
end DL
namespace DL
open PySem L2
theorem lcl_list {g : DTg} {tt : DB} {te : DT} {ρ : Rho} {Q : List PV → Pd} (xs : List PV) (I : Nat → List PV → Pd) {n : Ck} {acc : List PV} (h0 : I 0 acc n)
    (step : ∀ (i : Nat) (x : PV) (acc : List PV) (n : Ck) (Nx : List PV → Pd), xs[i]? = some x → I i acc n → (∀ acc' n', I (i + 1) acc' n' → Nx acc' n') →
      g x ρ (fun ρ2 => tt ρ2 fun b => if b = true then te ρ2 fun y => Nx (acc ++ [y]) else Nx acc) n)
    (fin : ∀ acc n, I xs.length acc n → Q acc n) : dLcL g tt te ρ xs acc Q n := by
  have key : ∀ (ys : List PV) (i : Nat), i ≤ xs.length → xs.drop i = ys → ∀ acc n, I i acc n → dLcL g tt te ρ ys acc Q n := by
    intro ys
    induction ys with
    | nil =>
      intro i hle hi acc n h
      have hl : xs.length ≤ i := List.drop_eq_nil_iff.1 hi
      have c : i = xs.length := by omega
      subst c; exact fin acc n h
    | cons y ys ih =>
      intro i hle hi acc n h
      have hx : xs[i]? = some y := by
        have : (xs.drop i)[0]? = some y := by rw [hi]; rfl
        rw [List.getElem?_drop] at this
        simpa using this
      refine step i y acc n (fun acc => dLcL g tt te ρ ys acc Q) hx h (fun acc' n' h' => ih (i + 1) (List.getElem?_eq_some_iff.mp hx).1 ?_ acc' n' h')
      rw [← List.drop_drop, hi]; rfl
  exact key xs 0 (Nat.zero_le _) (by simp) acc n h0
end DL
namespace DL
end DL
namespace DL
open PySem L2
theorem ixn_nat {n i : Nat} (h : i < n) : ixN n (i : Int) = some i := by
  unfold ixN
  rw [if_pos (by omega), if_pos (by omega)]; simp
end DL
namespace DL
open PySem L2
end DL
namespace DL
open PySem L2
end DL
namespace GF
theorem tb0 (x : Nat) : x.testBit 0 = decide (x % 2 = 1) := by simp [Nat.testBit_zero]
theorem tb_half (x k : Nat) : (x / 2).testBit k = x.testBit (k + 1) := by rw [Nat.testBit_succ]
theorem tb_dbl (x k : Nat) : (2 * x).testBit (k + 1) = x.testBit k := by rw [Nat.testBit_succ]; congr 1; omega
theorem tb_dbl0 (x : Nat) : (2 * x).testBit 0 = false := by rw [tb0]; simp
theorem ext {x y : Nat} (h : ∀ k, x.testBit k = y.testBit k) : x = y := Nat.eq_of_testBit_eq h
theorem dbl_xor (x y : Nat) : 2 * x ^^^ 2 * y = 2 * (x ^^^ y) := ext fun k => by
  cases k with
  | zero => rw [Nat.testBit_xor, tb_dbl0, tb_dbl0, tb_dbl0]; rfl
  | succ k => rw [Nat.testBit_xor, tb_dbl, tb_dbl, tb_dbl, Nat.testBit_xor]
theorem half_xor (x y : Nat) : (x ^^^ y) / 2 = x / 2 ^^^ y / 2 := ext fun k => by
  rw [tb_half, Nat.testBit_xor, Nat.testBit_xor, tb_half, tb_half]
theorem xor_odd (x y : Nat) : (x ^^^ y) % 2 = (x % 2 + y % 2) % 2 := by
  have h := Nat.testBit_xor x y 0
  rw [tb0, tb0, tb0] at h
  have a := Nat.mod_two_eq_zero_or_one x
  have b := Nat.mod_two_eq_zero_or_one y
  have c := Nat.mod_two_eq_zero_or_one (x ^^^ y)
  rcases a with a | a <;> rcases b with b | b <;> rcases c with c | c <;> simp_all
theorem odd_dbl (x : Nat) (h : x % 2 = 1) : x = 1 ^^^ 2 * (x / 2) := ext fun k => by
  cases k with
  | zero => rw [Nat.testBit_xor, tb_dbl0, tb0, h]; rfl
  | succ k => rw [Nat.testBit_xor, tb_dbl, tb_half, Nat.testBit_succ 1]; simp
theorem even_dbl (x : Nat) (h : x % 2 = 0) : x = 2 * (x / 2) := by omega
def cm (a b : Nat) : Nat := if b = 0 then 0 else (if b % 2 = 1 then a else 0) ^^^ 2 * cm a (b / 2)
termination_by b
decreasing_by omega
theorem cm_zero (a : Nat) : cm a 0 = 0 := by rw [cm]; simp
theorem cm_dbl (a b : Nat) : cm a (2 * b) = 2 * cm a b := by
  by_cases h : b = 0
  · subst h; simp [cm_zero]
  · rw [cm, if_neg (by omega), if_neg (by omega)]
    rw [show 2 * b / 2 = b by omega]; simp
theorem cm_odd (a b : Nat) (h : b % 2 = 1) : cm a b = a ^^^ 2 * cm a (b / 2) := by
  rw [cm, if_neg (by omega), if_pos h]
theorem cm_even (a b : Nat) (h : b % 2 = 0) : cm a b = 2 * cm a (b / 2) := by
  by_cases h0 : b = 0
  · subst h0; simp [cm_zero]
  · rw [cm, if_neg h0, if_neg (by omega)]; simp
theorem ind {P : Nat → Prop} (h0 : P 0) (h : ∀ b, b ≠ 0 → P (b / 2) → P b) (b : Nat) : P b := by
  induction b using Nat.strongRecOn with
  | ind b ih =>
    by_cases c : b = 0
    · subst c; exact h0
    · exact h b c (ih _ (by omega))
theorem xor4 (a b c d : Nat) : (a ^^^ b) ^^^ (c ^^^ d) = (a ^^^ c) ^^^ (b ^^^ d) := ext fun k => by
  simp only [Nat.testBit_xor]
  cases a.testBit k <;> cases b.testBit k <;> cases c.testBit k <;> cases d.testBit k <;> rfl
theorem cm_xor_l (a a' b : Nat) : cm (a ^^^ a') b = cm a b ^^^ cm a' b := by
  induction b using ind with
  | h0 => simp [cm_zero]
  | h b hb ih =>
    rcases Nat.mod_two_eq_zero_or_one b with e | e
    · rw [cm_even _ _ e, cm_even _ _ e, cm_even _ _ e, ih, dbl_xor]
    · rw [cm_odd _ _ e, cm_odd _ _ e, cm_odd _ _ e, ih, xor4, dbl_xor]
theorem cm_zero_l (b : Nat) : cm 0 b = 0 := by
  induction b using ind with
  | h0 => exact cm_zero 0
  | h b hb ih =>
    rcases Nat.mod_two_eq_zero_or_one b with e | e
    · rw [cm_even _ _ e, ih]
    · rw [cm_odd _ _ e, ih]; rfl
theorem cm_dbl_l (a b : Nat) : cm (2 * a) b = 2 * cm a b := by
  induction b using ind with
  | h0 => simp [cm_zero]
  | h b hb ih =>
    rcases Nat.mod_two_eq_zero_or_one b with e | e
    · rw [cm_even _ _ e, cm_even _ _ e, ih]
    · rw [cm_odd _ _ e, cm_odd _ _ e, ih, dbl_xor]
theorem cm_one (a : Nat) : cm a 1 = a := by rw [cm_odd _ _ rfl, show 1 / 2 = 0 from rfl, cm_zero]; simp
theorem cm_one_l (b : Nat) : cm 1 b = b := by
  induction b using ind with
  | h0 => exact cm_zero 1
  | h b hb ih =>
    rcases Nat.mod_two_eq_zero_or_one b with e | e
    · rw [cm_even _ _ e, ih]; omega
    · rw [cm_odd _ _ e, ih]; exact (odd_dbl b e).symm
theorem cm_comm (a b : Nat) : cm a b = cm b a := by
  induction b using ind generalizing a with
  | h0 => rw [cm_zero, cm_zero_l]
  | h b hb ih =>
    rcases Nat.mod_two_eq_zero_or_one b with e | e
    · rw [cm_even _ _ e, ih, ← cm_dbl_l, ← even_dbl b e]
    · rw [cm_odd _ _ e, ih]
      conv => rhs; rw [odd_dbl b e, cm_xor_l, cm_dbl_l, cm_one_l]
theorem cm_xor (a b b' : Nat) : cm a (b ^^^ b') = cm a b ^^^ cm a b' := by
  rw [cm_comm, cm_xor_l, cm_comm b, cm_comm b']
theorem cm_assoc (a b c : Nat) : cm (cm a b) c = cm a (cm b c) := by
  induction c using ind with
  | h0 => simp [cm_zero]
  | h c hc ih =>
    rcases Nat.mod_two_eq_zero_or_one c with e | e
    · rw [cm_even _ _ e, cm_even _ _ e, ih, cm_dbl]
    · rw [cm_odd _ _ e, cm_odd _ _ e, ih, cm_xor, cm_dbl]
theorem cm_mod2 (a b : Nat) : (cm a b) % 2 = (a % 2) * (b % 2) := by
  rcases Nat.mod_two_eq_zero_or_one b with e | e
  · rw [cm_even _ _ e, e]; omega
  · rw [cm_odd _ _ e, xor_odd, e]; omega
def bl (x : Nat) : Nat := if x = 0 then 0 else x.log2 + 1
theorem bl_zero : bl 0 = 0 := rfl
theorem lt_bl (x : Nat) : x < 2 ^ bl x := by
  unfold bl
  by_cases h : x = 0
  · subst h; simp
  · rw [if_neg h]; exact Nat.lt_log2_self
theorem bl_le {x k : Nat} (h : x < 2 ^ k) : bl x ≤ k := by
  unfold bl
  by_cases c : x = 0
  · rw [if_pos c]; omega
  · rw [if_neg c]; exact (Nat.log2_lt c).2 h
theorem bl_lt_iff {x k : Nat} : bl x ≤ k ↔ x < 2 ^ k := ⟨fun h => Nat.lt_of_lt_of_le (lt_bl x) (Nat.pow_le_pow_right (by decide) h), bl_le⟩
theorem bl_pos {x : Nat} (h : x ≠ 0) : 0 < bl x := by unfold bl; rw [if_neg h]; omega
theorem bl_eq_zero {x : Nat} : bl x = 0 ↔ x = 0 := by
  refine ⟨fun h => ?_, fun h => by subst h; rfl⟩
  by_cases c : x = 0
  · exact c
  · have := bl_pos c; omega
theorem bl_half {x : Nat} (h : x ≠ 0) : bl x = bl (x / 2) + 1 := by
  have a := lt_bl x
  have b := lt_bl (x / 2)
  apply Nat.le_antisymm
  · apply bl_le; rw [Nat.pow_succ]; omega
  · have : bl (x / 2) ≤ bl x - 1 := bl_le (by
      have h1 : bl x = (bl x - 1) + 1 := by have := bl_pos h; omega
      rw [h1, Nat.pow_succ] at a; omega)
    have := bl_pos h; omega
theorem bl_dbl {x : Nat} (h : x ≠ 0) : bl (2 * x) = bl x + 1 := by
  rw [bl_half (by omega), show 2 * x / 2 = x by omega]
theorem bl_xor_lt {x y : Nat} (h : bl y < bl x) : bl (x ^^^ y) = bl x := by
  induction x using ind generalizing y with
  | h0 => simp [bl_zero] at h
  | h x hx ih =>
    by_cases hy : y = 0
    · subst hy; simp
    · by_cases hx2 : x / 2 = 0
      · have h1 : bl x = 1 := by rw [bl_half hx, hx2]; rfl
        have := bl_pos hy; omega
      · have a := bl_half hx
        have b := bl_half hy
        have e := ih (y := y / 2) (by omega)
        rw [← half_xor] at e
        have ne : x ^^^ y ≠ 0 := fun z => by
          rw [z] at e; have := bl_pos hx2; simp [bl_zero] at e; omega
        rw [bl_half ne, e]; omega
theorem bl_xor_le (x y : Nat) {k : Nat} (h1 : bl x ≤ k) (h2 : bl y ≤ k) : bl (x ^^^ y) ≤ k := by
  rw [bl_lt_iff] at *
  exact Nat.xor_lt_two_pow h1 h2
theorem bl_shift (x s : Nat) (h : x ≠ 0) : bl (x * 2 ^ s) = bl x + s := by
  induction s with
  | zero => simp
  | succ s ih =>
    rw [Nat.pow_succ, ← Nat.mul_assoc, Nat.mul_comm _ 2, bl_dbl, ih]; omega
    exact Nat.mul_ne_zero h (by have : 0 < 2 ^ s := Nat.two_pow_pos s
                                omega)
theorem bl_cm {a b : Nat} (ha : a ≠ 0) (hb : b ≠ 0) : bl (cm a b) + 1 = bl a + bl b := by
  induction b using ind with
  | h0 => exact absurd rfl hb
  | h b hb ih =>
    by_cases h2 : b / 2 = 0
    · have e : b = 1 := by omega
      subst e; rw [cm_one]; rfl
    · have i := ih h2
      have hne : cm a (b / 2) ≠ 0 := fun z => by
        rw [z, bl_zero] at i; have := bl_pos ha; have := bl_pos h2; omega
      have hb' := bl_half hb
      rcases Nat.mod_two_eq_zero_or_one b with e | e
      · rw [cm_even _ _ e, bl_dbl hne]; omega
      · rw [cm_odd _ _ e, Nat.xor_comm, bl_xor_lt, bl_dbl hne]; omega
        rw [bl_dbl hne]; have := bl_pos h2; omega
theorem cm_ne {a b : Nat} (ha : a ≠ 0) (hb : b ≠ 0) : cm a b ≠ 0 := fun z => by
  have := bl_cm ha hb
  rw [z, bl_zero] at this
  have := bl_pos ha; have := bl_pos hb; omega
theorem cm_cancel {a b c : Nat} (hc : c ≠ 0) (h : cm a c = cm b c) : a = b := by
  have e : cm (a ^^^ b) c = 0 := by rw [cm_xor_l, h, Nat.xor_self]
  by_cases z : a ^^^ b = 0
  · exact Nat.eq_of_testBit_eq fun k => by
      have := congrArg (fun x => x.testBit k) z
      simp only [Nat.testBit_xor, Nat.zero_testBit] at this
      cases h1 : a.testBit k <;> cases h2 : b.testBit k <;> simp_all
  · exact absurd e (cm_ne z hc)
theorem cm_pow (a s : Nat) : cm a (2 ^ s) = a * 2 ^ s := by
  induction s with
  | zero => simp [cm_one]
  | succ s ih => rw [Nat.pow_succ, Nat.mul_comm _ 2, cm_dbl, ih]; rw [← Nat.mul_assoc, Nat.mul_comm 2 a, Nat.mul_assoc]
theorem div_step {one other q r : Nat} (h : one = cm q other ^^^ r) (s : Nat) : one = cm (q ^^^ 2 ^ s) other ^^^ (r ^^^ other * 2 ^ s) := by
  rw [cm_xor_l, cm_comm (2 ^ s), cm_pow, xor4, Nat.xor_self, Nat.xor_zero, ← h]
theorem div_less {r other : Nat} (ho : other ≠ 0) (h : bl other ≤ bl r) : bl (r ^^^ other * 2 ^ (bl r - bl other)) < bl r := by
  have hr : r ≠ 0 := fun z => by subst z; have := bl_pos ho; rw [bl_zero] at h; omega
  have e : bl (other * 2 ^ (bl r - bl other)) = bl r := by rw [bl_shift _ _ ho]; omega
  have key : ∀ (k x y : Nat), bl x = k + 1 → bl y = k + 1 → bl (x ^^^ y) ≤ k := by
    intro k
    induction k with
    | zero =>
      intro x y hx hy
      have a : x < 2 := by have := lt_bl x; rw [hx] at this; simpa using this
      have b : y < 2 := by have := lt_bl y; rw [hy] at this; simpa using this
      have a0 : x ≠ 0 := fun z => by subst z; simp [bl_zero] at hx
      have b0 : y ≠ 0 := fun z => by subst z; simp [bl_zero] at hy
      have : x = 1 := by omega
      have : y = 1 := by omega
      subst x; subst y; decide
    | succ k ih =>
      intro x y hx hy
      have a0 : x ≠ 0 := fun z => by subst z; simp [bl_zero] at hx
      have b0 : y ≠ 0 := fun z => by subst z; simp [bl_zero] at hy
      have i := ih (x / 2) (y / 2) (by have := bl_half a0; omega) (by have := bl_half b0; omega)
      by_cases z : x ^^^ y = 0
      · rw [z, bl_zero]; omega
      · rw [bl_half z, half_xor]; omega
  have hp := bl_pos hr
  have := key (bl r - 1) r (other * 2 ^ (bl r - bl other)) (by omega) (by omega)
  omega
theorem div_exact {q q' other r : Nat} (ho : other ≠ 0) (h : cm q' other = cm q other ^^^ r) (hr : bl r < bl other) : q = q' ∧ r = 0 := by
  have e : cm (q' ^^^ q) other = r := by
    rw [cm_xor_l, h]
    rw [Nat.xor_comm (cm q other), Nat.xor_assoc, Nat.xor_self, Nat.xor_zero]
  by_cases z : q' ^^^ q = 0
  · rw [z, cm_zero_l] at e
    refine ⟨?_, e.symm⟩
    exact Nat.eq_of_testBit_eq fun k => by
      have := congrArg (fun x => x.testBit k) z
      simp only [Nat.testBit_xor, Nat.zero_testBit] at this
      cases h1 : q.testBit k <;> cases h2 : q'.testBit k <;> simp_all
  · have := bl_cm z ho
    rw [e] at this
    have := bl_pos z; omega
def dvd (g a : Nat) : Prop := ∃ q, a = cm q g
theorem dvd_self (g : Nat) : dvd g g := ⟨1, (cm_one_l g).symm⟩
theorem dvd_zero (g : Nat) : dvd g 0 := ⟨0, (cm_zero_l g).symm⟩
theorem dvd_back {g one other q r : Nat} (h : one = cm q other ^^^ r) (h1 : dvd g other) (h2 : dvd g r) : dvd g one := by
  obtain ⟨a, ha⟩ := h1
  obtain ⟨b, hb⟩ := h2
  exact ⟨cm q a ^^^ b, by rw [cm_xor_l, cm_assoc, ← ha, ← hb, h]⟩
def step (b r : Nat) : Nat := (r ^^^ (if r % 2 = 1 then b else 0)) / 2
def run (b : Nat) : Nat → Nat → Nat
  | 0, r => r
  | n + 1, r => run b n (step b r)
def co (a b n : Nat) : Nat := run b n a % 2
theorem co_succ (a b n : Nat) : co a b (n + 1) = co (step b a) b n := rfl
theorem step_dbl (b r : Nat) (hb : b % 2 = 1) : r = 2 * step b r ^^^ (if r % 2 = 1 then b else 0) := by
  have e : (r ^^^ (if r % 2 = 1 then b else 0)) % 2 = 0 := by
    rw [xor_odd]
    by_cases h : r % 2 = 1
    · rw [if_pos h, hb, h]
    · rw [if_neg h]; omega
  unfold step
  rw [← even_dbl _ e, Nat.xor_assoc, Nat.xor_self, Nat.xor_zero]
theorem cm_if (c : Prop) [Decidable c] (b d : Nat) : cm (if c then b else 0) d = if c then cm b d else 0 := by
  by_cases h : c
  · rw [if_pos h, if_pos h]
  · rw [if_neg h, if_neg h, cm_zero_l]
theorem step_cross {a b a' b' : Nat} (hb : b % 2 = 1) (hb' : b' % 2 = 1) (h : cm a b' = cm a' b) : cm (step b a) b' = cm (step b' a') b := by
  have hp : a % 2 = a' % 2 := by
    have := congrArg (· % 2) h
    simp only [cm_mod2, hb, hb', Nat.mul_one] at this
    exact this
  have h1 := step_dbl b a hb
  have h2 := step_dbl b' a' hb'
  rw [h1, h2, cm_xor_l, cm_xor_l, cm_dbl_l, cm_dbl_l, cm_if, cm_if] at h
  rw [hp, cm_comm b' b] at h
  generalize (if a' % 2 = 1 then cm b b' else 0) = z at h
  have := congrArg (· ^^^ z) h
  simp only [Nat.xor_assoc, Nat.xor_self, Nat.xor_zero] at this
  omega
theorem co_cross {a b a' b' : Nat} (hb : b % 2 = 1) (hb' : b' % 2 = 1) (h : cm a b' = cm a' b) (n : Nat) : co a b n = co a' b' n := by
  induction n generalizing a a' with
  | zero =>
    have := congrArg (· % 2) h
    simp only [cm_mod2, hb, hb', Nat.mul_one] at this
    exact this
  | succ n ih => rw [co_succ, co_succ]; exact ih (step_cross hb hb' h)
def conv (a b : Nat) : Nat → Nat → Nat
  | 0, _ => 0
  | k + 1, n => conv a b k n + (if b.testBit k then co a b (n - k) else 0)
def Red (A B x y : Nat) : Prop := ∃ g, g ≠ 0 ∧ A = cm x g ∧ B = cm y g
theorem Red.cross {A B x y : Nat} (h : Red A B x y) : cm x B = cm A y := by
  obtain ⟨g, _, rfl, rfl⟩ := h
  rw [cm_assoc, cm_comm g y]
theorem Red.odd {A B x y : Nat} (h : Red A B x y) (hb : B % 2 = 1) : y % 2 = 1 := by
  obtain ⟨g, _, _, rfl⟩ := h
  rw [cm_mod2] at hb
  have a := Nat.mod_two_eq_zero_or_one y
  rcases a with a | a
  · rw [a] at hb; omega
  · exact a
theorem Red.ne {A B x y : Nat} (h : Red A B x y) (hb : B ≠ 0) : y ≠ 0 := by
  obtain ⟨g, hg, _, rfl⟩ := h
  intro z; subst z; rw [cm_zero_l] at hb; exact hb rfl
theorem Red.co {A B x y : Nat} (h : Red A B x y) (hb : B % 2 = 1) (n : Nat) : GF.co x y n = GF.co A B n := co_cross (h.odd hb) hb h.cross n
theorem bl_cm_le (a b : Nat) : bl (cm a b) ≤ bl a + bl b := by
  by_cases ha : a = 0
  · subst ha; rw [cm_zero_l, bl_zero]; omega
  · by_cases hb : b = 0
    · subst hb; rw [cm_zero, bl_zero]; omega
    · have := bl_cm ha hb; omega
end GF
set_option maxRecDepth 100000
namespace GF
open PySem L2
theorem ib (b : Nat) : Builtin.Int.intBits (b : Int) = bl b := by
  unfold Builtin.Int.intBits bl
  by_cases h : b = 0
  · subst h; rfl
  · rw [if_neg h, if_neg (by simpa using h)]; rfl
theorem ix (a b : Nat) : Builtin.bitXor (a : Int) (b : Int) = ((a ^^^ b : Nat) : Int) := by
  rw [Bits.bitXor_pp (by omega) (by omega)]; rfl
theorem io (a b : Nat) : Builtin.bitOr (a : Int) (b : Int) = ((a ||| b : Nat) : Int) := by
  rw [Bits.bitOr_pp (by omega) (by omega)]; rfl
theorem ia (a b : Nat) : Builtin.bitAnd (a : Int) (b : Int) = ((a &&& b : Nat) : Int) := by
  rw [PyProof.Rows.bitAnd_pp (by omega) (by omega)]; rfl
theorem ia1 (a : Nat) : Builtin.bitAnd (a : Int) 1 = ((a % 2 : Nat) : Int) := by
  have := ia a 1
  rw [Nat.and_one_is_mod] at this
  exact this
theorem il (a k : Nat) : (a : Int) * 2 ^ ((k : Int)).toNat = ((a * 2 ^ k : Nat) : Int) := by simp
theorem ir (a k : Nat) : (a : Int) / 2 ^ ((k : Int)).toNat = ((a / 2 ^ k : Nat) : Int) := by simp
theorem in0 (a : Nat) : ((a : Int) != 0) = (a != 0) := by
  by_cases h : a = 0
  · subst h; rfl
  · have : ((a : Int) != 0) = true := by simpa using h
    rw [this]; simpa using h
theorem shl_small {a k : Nat} (h : bl a + k ≤ 2 ^ 27) : CShl (a : Int) (k : Int) := by
  refine ⟨by omega, ?_⟩
  rw [ib]; omega
end GF
set_option maxRecDepth 100000
set_option maxHeartbeats 2000000
namespace DLX
open PySem PySem.W PySem.Spec PySem.Calls PyProof.Rows
section
variable {prog : Program} {w : World} {A : Around} {E : Value → Shared → Prop} {s : Shared} {K : Frag} {x D : Addr} {ox : Obj} {od : Option Obj}
end
end DLX
namespace DL
open PySem L2
section
variable {X : Cx} {o e : Expr} {es : List Expr} {ta : TA} {p1 p2 pos p : Pos} {B : Addr} {x : Str}
theorem pe_binit {pl : Sem Bool} (hg : Gl X x) (hm : X.mg x = some (.ref B)) (rd : PySem.W.readsIn X.K B (.type "type") = true) (ga : PySem.W.specialIn X.K (.ref B) "__getattribute__" = some (some (.builtin "type.__getattribute__")))
    (fi : PySem.W.findCls X.K (.ref B) (.type "type") "__init__" = some (.val (.builtin "ValueError.__init__"))) (ha : PA X (e :: es) ta) (hdb : (x == ("__debug__" : Str)) = false := by decide)
    (hc : eval (.Call (.Attribute (.Name x p1) "__init__" p2) (e :: es) [] pos) X.env = (do
      let ov ← eval (.Name x p1) X.env
      standAt p2.atName
      let (f, first) ← holding [ov] (getMethod ov "__init__" pl)
      callWith pos f first (backTo pos (starEach (e :: es) X.env)) (backToKw pos (keywordEach [] X.env))) := by rfl)
    (he : starEach (e :: es) X.env = (false, eval e X.env) :: starEach es X.env := by rfl) (hpl : (backTo pos (starEach es X.env)).any (·.1) = false := by rfl) :
    PE X (.Call (.Attribute (.Name x p1) "__init__" p2) (e :: es) [] pos) (tVeI X.K ta) := by
  refine ⟨fun pins s σ H Q I h => ?_⟩
  refine PySem.W.methodCall_KW (pl := pl) (ld_glob I hg hm ?_ hdb) hc
  refine PySem.W.method_cls I.kIn ga (PySem.W.cls_value I.kIn rd fi (by rfl) ?_)
  show wpAny _ _ (callWith pos (Value.builtin "ValueError.__init__") [] (backTo pos (starEach (e :: es) X.env)) []) _ _ _
  refine PyProof.Rows.callWith_method1 (thn (ha.run pos pins _ σ H _ (I.tok _) h) fun us s1 ⟨vs, H1, I1, r1, a, C, ws, ev, hl, T, ea, q⟩ => ?_) he hpl
  subst ev
  obtain ⟨u0, ur, rfl, ra, rw'⟩ : ∃ u0 ur, us = u0 :: ur ∧ RelV (.ref a) u0 ∧ Vals ws ur := by
    cases r1 with
    | cons r1 rr => exact ⟨_, _, rfl, r1, rr⟩
  cases ra
  have hz : ur.length ≤ sizeLine := by
    have := Paired.length rw'
    have := sizeLine_eq
    omega
  exact oinit_ok T I1 ea hz fun s' J => ⟨.non, H1, J, rfl, q⟩
end
end DL
set_option maxRecDepth 100000
set_option maxHeartbeats 2000000
namespace DL
open PySem PySem.Spec PyProof.Rows L2
abbrev Cl := Value × Option Nat × (Addr → Value → Option Addr → TS)
inductive ClOk (X : Cx) : List ExceptHandler → List Cl → Prop
  | nil : ClOk X [] []
  | as {x n : Str} {c : Value} {i : Nat} {ts : Addr → Value → Option Addr → TS} {b₀ : Stmt} {su : List Stmt} {np pos' : Pos} {hds : List ExceptHandler} {l : List Cl} (hc : Names X x c) (hi : X.N[i]? = some n) (hn : X.env.kindOf n = some .local)
      (hs : ∀ (a : Addr) (oe : Obj) (cls : Value) (d : Option Addr) (pn : List (Addr × Obj)), Zc cls d oe → (∃ vs, oe.data = .fields vs) → PSs (X.suite a ((a, oe) :: pn)) (b₀ :: su) (ts a cls d)) (r : ClOk X hds l) :
      ClOk X (.ExceptHandler (some (.Name x np)) (some n) (b₀ :: su) pos' :: hds) ((c, some i, ts) :: l)
  | no {x : Str} {c : Value} {ts : Addr → Value → Option Addr → TS} {b₀ : Stmt} {su : List Stmt} {np pos' : Pos} {hds : List ExceptHandler} {l : List Cl} (hc : Names X x c)
      (hs : ∀ (a : Addr) (oe : Obj) (cls : Value) (d : Option Addr) (pn : List (Addr × Obj)), Zc cls d oe → (∃ vs, oe.data = .fields vs) → PSs (X.suite a ((a, oe) :: pn)) (b₀ :: su) (ts a cls d)) (r : ClOk X hds l) :
      ClOk X (.ExceptHandler (some (.Name x np)) none (b₀ :: su) pos' :: hds) ((c, none, ts) :: l)
section
variable {X : Cx} {body : List Stmt} {h₀ : ExceptHandler} {hds : List ExceptHandler} {l : List Cl} {pos : Pos} {tb : WX → TS} {Wout : WX}
end
end DL
set_option maxRecDepth 100000
set_option maxHeartbeats 2000000
namespace DL
open PySem PySem.Spec PyProof.Rows L2
section
variable {X : Cx} {p pos : Pos}
theorem mkz {pins : List (Addr × Obj)} {σ : L2.St} {H1 H2 : Hp} {Q : XK} {hp hp2 h2 : Heap} {g1 g2 : Array GenState} {d1 d2 : Drawn} {t1 t2 : Nat} {os1 os2 : OsState} {a C : Addr} (T : Raises X (.ref C)) (I1 : Inv X pins σ H1 ⟨hp, g1, d1, t1, os1⟩)
    (new : hp.objs.size ≤ a) (kp : ∀ b o, hp.get? b = some o → hp2.get? b = some o) (un : Un (frs X.stack) [] (upd H1 a (exo a C none)) H2 hp2 h2) (ok2 : HOk X.prog X.w H2 h2) (eo : os2 = os1) (bare : AllBare g2)
    (ea : H2 a = some (exo a C none)) (q : Q (.ref C) none (del H2 a)) : MkP X pins σ Q (.ref a) ⟨h2, g2, d2, t2, os2⟩ := by
  obtain ⟨t0, ato⟩ := exo_at ok2 ea
  have free : H1 a = none := I1.hok.fresh new
  obtain ⟨G, same, gone⟩ := restrict h2 fun b => decide (b ≠ a)
  have gk : ∀ b, b ≠ a → G.get? b = h2.get? b := fun b hb => same b (decide_eq_true hb)
  have ga : G.get? a = none := gone a (by simp)
  have ne : ∀ {b : Addr} {o : Obj}, hp.get? b = some o → b ≠ a := fun {b o} z => Nat.ne_of_lt (Nat.lt_of_lt_of_le (Heap.lt_size z) new)
  have un1 : ∀ {b : Addr}, b ≠ a → H1 b = none → upd H1 a (exo a C none) b = none := fun {b} hb n => (upd_ne hb).trans n
  have lift : ∀ {b : Addr} {o : HO}, H1 b = some o → upd H1 a (exo a C none) b = some o := fun {b o} z => (upd_ne (ne_of_none z free)).trans z
  have U : Un (frs X.stack) [] H1 (del H2 a) hp G := {
    keep := fun b o z n hf hx => (gk b (ne z)).trans (un.keep b o (kp b o z) (un1 (ne z) n) hf hx)
    slot := fun b o z n hf hx => by rw [gk b (ne z)]; exact un.slot b o (kp b o z) (un1 (ne z) n) hf hx
    free := fun b o z n hx => (del_ne (ne z)).trans (un.free b o (kp b o z) (un1 (ne z) n) hx)
    there := fun b o z hx => by rw [gk b (ne z)]; exact un.there b o (kp b o z) hx
    tups := fun b xs z => (del_ne (ne_of_none z free)).trans (un.tups b xs (lift z))
    frzs := fun b o v z => (del_ne (ne_of_none z free)).trans (un.frzs b o v (lift z))
    tbls := fun b ps z => by rw [del_ne (ne_of_none z free)]; exact un.tbls b ps (lift z) }
  have ok3 : HOk X.prog X.w (del H2 a) G := fun b o z => by
    have hba : b ≠ a := fun e => by rw [e, del_same] at z; cases z
    rw [del_ne hba] at z
    have nown : ∀ {c : Addr}, H2 c = some (.own b) → c ≠ a := fun {c} hc => at_ne ea hc exo_own
    refine (ok2 b o z).stay (fun c v hc y => ?_) (fun c hc => (del_ne (nown hc)).trans hc) (fun c xs hc => (del_ne (at_ne ea hc exo_tup)).trans hc)
    have hca : c ≠ a := by
      rcases hc with hc | hc
      · exact hc ▸ hba
      · exact nown hc
    rw [gk c hca]; exact y
  have J : Inv X pins σ (del H2 a) ⟨G, g2, d2, t2, os2⟩ := I1.call' (ch := []) eo U ok3 bare (fun b z => absurd z (by simp))
  have back : ∀ b o, G.get? b = some o → h2.get? b = some o := fun b o z => by
    by_cases e : b = a
    · rw [e, ga] at z; cases z
    · rw [← gk b e]; exact z
  exact ⟨a, _, _, ⟨G, g2, d2, t2, os2⟩, _, .ref C, none, rfl, J, back, ga, ato, ⟨rfl, rfl⟩, rfl, rfl, del_same, rfl, bare, T, q⟩
def tMkZ (C : Addr) (sp : Sp) : L2.St → Hp → XK → Prop := fun σ H Q => ∀ a, H a = none → sp [.ref a] (upd H a (exo a C none)) (fun v H2 => v = .non ∧ H2 a = some (exo a C none) ∧ Q (.ref C) none (del H2 a)) (fun _ _ _ => False)
theorem pmk_z {CX : CXT} {x : Str} {C fI : Addr} {k : Nat} {fd : FuncData} {ps : List Str} {sp : Sp} (T : OexC X.K C) (iC : PySem.W.findIn X.K (.ref C) "__init__" = some (some (.ref fI))) (tI : PySem.W.typeIn X.K (.ref fI) = some (.type "function"))
    (F1 : FnOk X.prog X.w X.K X.mg X.base CX k fI fd ps sp) (hr : Room (k + 1) X.A) (hb : Binds X.K fd ps []) (hx : Passes CX X (fun _ _ _ => False)) (hg : Gl X x) (hm : X.mg x = some (.ref C))
    (hdb : (x == ("__debug__" : Str)) = false := by decide) : PMk X (.Call (.Name x p) [] [] pos) (tMkZ C sp) := by
  intro pins s σ H Q I h
  obtain ⟨nm, q, N, bs, bm, sn, sub, ab, col, dd, k0, k1, k2, k3, k5, lk, vb⟩ := T.cls
  refine wpAny_Call_Name_kw (ld_glob I hg hm ?_ hdb)
  refine PySem.W.callWith_K0 I.kIn T.kC ?_
  show wpAny _ _ (call (.ref C) []) _ _ _
  obtain ⟨hp, g, dr, tk, os⟩ := s
  have le1 : hp.objs.size ≤ hp.objs.size + 1 := Nat.le_succ _
  have hn : H (hp.objs.size + 1) = none := I.hok.fresh le1
  have hq := h (hp.objs.size + 1) hn
  have kk : ∀ b o, hp.get? b = some o → ((hp.push (PySem.W.kdv_tup [])).push (PySem.HandSPX.excO C hp.objs.size)).get? b = some o := fun b o e => Heap.get?_push_of_some _ (Heap.get?_push_of_some _ e)
  have at1 : ((hp.push (PySem.W.kdv_tup [])).push (PySem.HandSPX.excO C hp.objs.size)).get? (hp.objs.size + 1) = some (PySem.HandSPX.excO C hp.objs.size) := by heap_get
  have I2 : Inv X pins σ (upd H (hp.objs.size + 1) (exo (hp.objs.size + 1) C none)) ⟨(hp.push (PySem.W.kdv_tup [])).push (PySem.HandSPX.excO C hp.objs.size), g, dr, tk, os⟩ :=
    I.laid (t' := tk) (a := hp.objs.size + 1) (o := exo (hp.objs.size + 1) C none) (h' := (hp.push (PySem.W.kdv_tup [])).push (PySem.HandSPX.excO C hp.objs.size)) kk le1 (exo_ok at1)
  have r2 : Vals [V.ref (hp.objs.size + 1)] [Value.ref (hp.objs.size + 1)] := .cons rfl .nil
  have hl : ([Value.ref (hp.objs.size + 1)] ++ []).length = ps.length := (F1.len _ _ _ _ hq)
  refine wpAny_call (PySem.HandSPX.call_own F.excBase_ValueError (fun Y => PySem.HandSPX.refsVE_contains Y bm vb) (I.kIn _ _ lk) (PySem.W.looks_findIn I.kIn iC) (fun self => PySem.W.bind_fn I.kIn self tI) (Nat.zero_le _)
    (codeAny_mono (F1.run _ X.stack _ _ ⟨[Value.ref (hp.objs.size + 1)], []⟩ [Value.ref (hp.objs.size + 1)] _ _ (fun _ _ _ => False) (hr.make C [] []) (I2.env0.make C [] []) (by have := hb _ [Value.ref (hp.objs.size + 1)] I2.kIn hl; simpa using this) r2 hq) fun r s' hq' => ?_))
  cases r with
  | error er => exact hx pins σ _ _ er s' I2 hq'
  | ok fl =>
    cases fl with
    | ret u =>
      obtain ⟨v, H2, e1, e2, e3, e4, rv, ev, ea, q2⟩ := hq'
      subst ev
      obtain ⟨h2, g2, d2, t2, os'⟩ := s'
      exact ⟨rv, mkz (raises_own T.exC T.tyC) I le1 kk e3 e4 e1 e2 ea q2⟩
    | next => exact hq'.elim
    | brk => exact hq'.elim
    | cont => exact hq'.elim
end
end DL
set_option maxRecDepth 100000
set_option maxHeartbeats 2000000
namespace DL
open PySem L2
def spX (C : Addr) (names : List Str) : Sp := fun vs H Q _ => ∃ (a : Addr) (ws : List V), vs = .ref a :: ws ∧ ws.length = names.length ∧ H a = some (exo a C none) ∧ (names = [] → Q .non H) ∧
  (names ≠ [] → ∀ (d : Addr) (H2 : Hp), H d = none → d ≠ a → H2 a = some (exo a C (some d)) → H2 d = some (exd d (names.zip ws).reverse) → (∀ b, b ≠ a → b ≠ d → H2 b = H b) → Q .non H2)
theorem zip_rev {names : List Str} (nd : names.Nodup) : ∀ {ws : List V} {i : Nat} {f : Str} {v : V}, names[i]? = some f → ws[i]? = some v → (names.zip ws).reverse.lookup f = some v := by
  induction names with
  | nil => intro ws i f v h _; simp at h
  | cons n names ih =>
    intro ws i f v h h2
    obtain ⟨nn, nd'⟩ := List.nodup_cons.1 nd
    cases ws with
    | nil => simp at h2
    | cons w ws =>
      rw [List.zip_cons_cons, List.reverse_cons, List.lookup_append]
      cases i with
      | zero =>
        simp only [List.getElem?_cons_zero, Option.some.injEq] at h h2
        subst h; subst h2
        have : (names.zip ws).reverse.lookup n = none := by
          apply lookup_no
          intro z
          rw [List.map_reverse, List.mem_reverse] at z
          obtain ⟨p, hp, e⟩ := List.mem_map.1 z
          have := (List.of_mem_zip hp).1
          rw [e] at this
          exact nn this
        rw [this]
        simp [List.lookup]
      | succ i =>
        rw [List.getElem?_cons_succ] at h h2
        rw [ih nd' h h2]
        rfl
theorem Fr0.more {P : Par} {H0 H H' : Hp} {W0 W : Wd} (f : Fr0 P K H0 W0 W H) (h : ∀ b o, H b = some o → H' b = some o) : Fr0 P K H0 W0 W H' :=
  ⟨f.le, fun a o x => h a o (f.sub a o x), fun a o x n => h a o (f.keep a o x n), f.freshF, f.freshB, fun a k x => let ⟨h1, o, h2, h3⟩ := f.box a k x; ⟨h1, o, h a o h2, h3⟩, fun ev => ⟨(f.bx ev).1, fun a k x hk => let ⟨_, o, h2, _⟩ := f.box a k x; ⟨((f.bx ev).2 a k x hk).1, by rw [h a o h2, ← h2]; exact ((f.bx ev).2 a k x hk).2⟩⟩⟩
section
variable {Z : Cz} {X : Cx} {e : Expr} {es : List Expr} {pos p : Pos} {t : DA} {Ex : PX → Pd} {c k : Nat}
def dRaise (c k : Nat) (Ex : PX → Pd) (t : DA) : DSt := fun _ ρ => t ρ fun ps n => ps.length = k ∧ Ex ⟨c, ps⟩ n
theorem ds_raise {e0 : Expr} (D : DX Z X Ex) (ha : DAs Z X es t) (hl : (Z.P.fn c).length = k) (h0 : 0 < k) (h1 : k ≤ 1000) (nd : (Z.P.fn c).Nodup)
    (hp : PA X es (liftA Z.P X.K Z.H0 Z.W0 t) → PMk X e0 (tMkO (Z.P.cm c) (spX (Z.P.cm c) (Z.P.fn c)) [] (liftA Z.P X.K Z.H0 Z.W0 t))) : DS Z X (.Raise (some e0) none pos) (dRaise c k Ex t) := by
  refine ⟨fun D D' ρ n l q => q, PS.weak (ps_raise D.calm D.tk (hp ha.run)) fun D' σ H q => ?_⟩
  obtain ⟨W, ρ, S, q⟩ := q
  refine ⟨W, ρ, S, ha.mono ρ _ _ _ (fun ps n q vs W1 H1 f1 c1 r1 => ?_) q⟩
  obtain ⟨hk, q⟩ := q
  have hvl : vs.length = k := by rw [← r1.length]; exact hk
  refine ⟨by omega, fun a na => ⟨a, vs, by rw [List.append_nil], by omega, upd_same, fun z => by rw [z] at hl; simp at hl; omega, fun _ d H2 nd2 nda ha2 hd2 hr => ⟨rfl, d, _, ha2, hd2, ?_, ?_⟩⟩⟩
  · rwa [upd_ne nda] at nd2
  · have nd1 : H1 d = none := by rwa [upd_ne nda] at nd2
    have kp : ∀ b o, H1 b = some o → (upd (del H2 a) d (.xd ((Z.P.fn c).zip vs).reverse)) b = some o := fun b o hb => by
      have hba : b ≠ a := ne_of_none hb na
      have hbd : b ≠ d := ne_of_none hb nd1
      rw [upd_ne hbd, del_ne hba, hr b hba hbd, upd_ne hba]; exact hb
    have nB : W1.B d = none := by
      cases eb : W1.B d with
      | none => rfl
      | some u => obtain ⟨_, o, h2, _⟩ := f1.box d u eb; rw [nd1] at h2; cases h2
    refine ⟨⟨c, ps⟩, W1, c1 ▸ q, (S.fr.trans f1).more kp, rfl, by show ps.length = (Z.P.fn c).length; omega, Or.inr ⟨d, _, rfl, upd_same, nB, fun i f p hf hp => ?_⟩⟩
    obtain ⟨v, hv, rv⟩ := r1.get hp
    exact ⟨v, zip_rev nd hf hv, rv⟩
def dRaise0 (c : Nat) (Ex : PX → Pd) : DSt := fun _ _ => Ex ⟨c, []⟩
theorem ds_raise0 {e0 : Expr} (D : DX Z X Ex) (hl : Z.P.fn c = []) (hp : PMk X e0 (tMkZ (Z.P.cm c) (spX (Z.P.cm c) (Z.P.fn c)))) : DS Z X (.Raise (some e0) none pos) (dRaise0 c Ex) := by
  refine ⟨fun D D' ρ n l q => q, PS.weak (ps_raise D.calm D.tk hp) fun D' σ H q => ?_⟩
  obtain ⟨W, ρ, S, q⟩ := q
  refine fun a na => ⟨a, [], rfl, by rw [hl]; rfl, upd_same, fun _ => ⟨rfl, upd_same, ?_⟩, fun z => absurd hl z⟩
  refine ⟨⟨c, []⟩, W, q, S.fr.more fun b o hb => ?_, rfl, by rw [hl]; rfl, Or.inl ⟨rfl, rfl⟩⟩
  have hba : b ≠ a := ne_of_none hb na
  rw [del_ne hba, upd_ne hba]; exact hb
structure DCl where
  m : Nat → Option Bool
  i : Option Nat
  ts : Addr → Value → Option Addr → DSt
def endsD (D : DEnds) : Option Nat → DEnds
  | none => D
  | some i => { nx := fun ρ => D.nx (ρ.set i .no), rt := D.rt, bk := fun ρ => D.bk (ρ.set i .no), ct := fun ρ => D.ct (ρ.set i .no) }
def noR (len : Nat) (i : Option Nat) (s : Slot) : Rho := match i with
  | none => List.replicate len .no
  | some i => (List.replicate len Slot.no).set i s
def hw (len : Nat) (D : DEnds) (Ex0 : PX → Pd) : List DCl → PX → Pd
  | [] => Ex0
  | k :: r => fun x n => ∃ b, k.m x.c = some b ∧ (b = true → ∀ a cls d, k.ts a cls d (endsD D k.i) (noR len k.i (.exc a cls d x)) n) ∧ (b = false → hw len D Ex0 r x n)
inductive DClOk (Z : Cz) (X : Cx) : List ExceptHandler → List DCl → Prop
  | nil : DClOk Z X [] []
  | as {x n : Str} {C : Value} {i : Nat} {m : Nat → Option Bool} {ts : Addr → Value → Option Addr → DSt} {b₀ : Stmt} {su : List Stmt} {np pos' : Pos} {hds : List ExceptHandler} {l : List DCl} (hc : Names X x C) (hm : ∀ c b, m c = some b → PySem.W.exmOne X.K (.ref (Z.P.cm c)) C = some b)
      (hi : X.N[i]? = some n) (hn : X.env.kindOf n = some .local) (hs : ∀ (a : Addr) (oe : Obj) (cls : Value) (d : Option Addr) (pn : List (Addr × Obj)), Zc cls d oe → (∃ vs, oe.data = .fields vs) → DSs Z (X.suite a ((a, oe) :: pn)) (b₀ :: su) (ts a cls d)) (r : DClOk Z X hds l) :
      DClOk Z X (.ExceptHandler (some (.Name x np)) (some n) (b₀ :: su) pos' :: hds) (⟨m, some i, ts⟩ :: l)
  | no {x : Str} {C : Value} {m : Nat → Option Bool} {ts : Addr → Value → Option Addr → DSt} {b₀ : Stmt} {su : List Stmt} {np pos' : Pos} {hds : List ExceptHandler} {l : List DCl} (hc : Names X x C) (hm : ∀ c b, m c = some b → PySem.W.exmOne X.K (.ref (Z.P.cm c)) C = some b)
      (hs : ∀ (a : Addr) (oe : Obj) (cls : Value) (d : Option Addr) (pn : List (Addr × Obj)), Zc cls d oe → (∃ vs, oe.data = .fields vs) → DSs Z (X.suite a ((a, oe) :: pn)) (b₀ :: su) (ts a cls d)) (r : DClOk Z X hds l) :
      DClOk Z X (.ExceptHandler (some (.Name x np)) none (b₀ :: su) pos' :: hds) (⟨m, none, ts⟩ :: l)
def Rho.plain (ρ : Rho) : Bool := ρ.all fun s => !s.isOwn
theorem SR.from {P : Par} {K : PySem.W.Frag} {H0 H H' : Hp} {W0 W W' : Wd} {σ : L2.St} {ρ : Rho} (f : Fr0 P K H0 W0 W H) (S : SR P K H W W' σ H' ρ) : SR P K H0 W0 W' σ H' ρ := by
  have up : ∀ {a : Addr}, OwnA H W' a → OwnA H0 W' a := fun {a} ⟨n, x⟩ => by
    refine ⟨?_, x⟩
    cases e : H0 a with
    | none => rfl
    | some o =>
      cases e2 : W0.B a with
      | none => rw [f.keep a o e e2] at n; cases n
      | some k => obtain ⟨_, u, h, _⟩ := f.box a k (f.le.b a k e2); rw [n] at h; cases h
  refine ⟨f.trans S.fr, S.len, fun i s h => ?_, S.dist⟩
  have q := S.slots i s h
  cases s with
  | no => trivial
  | fz p => exact q
  | own xs => obtain ⟨a, ys, e, h1, r, x⟩ := q; exact ⟨a, ys, e, h1, r, up x⟩
  | slf a c vs => obtain ⟨dx, gs, e, h1, h2, h3, r, x⟩ := q; exact ⟨dx, gs, e, h1, h2, h3, r, up x⟩
  | exc a cls d x => exact q
variable {a : Addr} {oe : Obj} {cls : Value} {d : Option Addr} {pn : List (Addr × Obj)} {p1 p2 : Pos}
def dXf (a : Addr) (cls : Value) (d : Option Addr) (i c k : Nat) : DT := fun ρ Q n => ∃ x, ρ[i]? = some (.exc a cls d x) ∧ x.c = c ∧ ∃ v, x.vs[k]? = some v ∧ Q v n
def dIsX (a : Addr) (cls : Value) (d : Option Addr) (i : Nat) (m : Nat → Option Bool) : DT := fun ρ Q n => ∃ x, ρ[i]? = some (.exc a cls d x) ∧ ∃ b, m x.c = some b ∧ Q (.bl b) n
end
end DL
set_option maxRecDepth 100000
set_option maxHeartbeats 2000000
namespace DLX
open PySem PySem.W PySem.Spec PySem.Calls PyProof.Rows
section
variable {prog : Program} {w : World} {A : Around} {E : Value → Shared → Prop} {s : Shared} {K : Frag} {x C f L : Addr} {ox : Obj} {od : Option Obj} {h₀ : Heap} {m : Str → Option Value} {b tb : Value}
end
end DLX
namespace DL
open PySem L2
structure IsC (K : PySem.W.Frag) (C : Addr) : Prop where
  cl : Cls K C
  ha : PySem.W.findIn K (.ref C) "__class__" = some (some (.builtin "object.__class__"))
  hn : PySem.W.specialIn K (.builtin "object.__class__") "__get__" = some (some (.builtin "getset_descriptor.__get__"))
  ht : PySem.W.takesIn K (.builtin "object.__class__") = some true
  hm : PySem.W.mroIn K C (.type "object") = some true
end DL
namespace DL
open PySem L2
def plainY : PV → Bool
  | .non => true
  | .bl _ => true
  | .int _ => true
  | .str _ => true
  | .tup _ => true
  | .lst _ => true
  | _ => false
section
variable {Z : Cz} {X : Cx} {e : Expr} {pos p p2 : Pos} {te : DT} {k c : Nat} {f : Addr} {fd : FuncData} {ps : List Str} {D : DSp}
def gOwnP (c : Nat) (D : DSp) : G2 := fun x y Q n => ∃ vs, x = .ins c vs ∧ plainY y = true ∧ D [x, y] Q (fun _ _ => False) n
def gOwnNe (c : Nat) (D : DSp) : G2 := fun x y Q n => ∃ vs, x = .ins c vs ∧ ∃ us, y = .ins c us ∧ D [x, y] (fun p n => ∃ b, p = .bl b ∧ Q (.bl (!b)) n) (fun _ _ => False) n
def mIs (c : Nat) (no : List Nat) : PV → Option Bool
  | .ins c' _ => if c' = c then some true else if c' ∈ no then some false else none
  | y => if plainY y = true then some false else none
def gIs (c : Nat) (no : List Nat) : G1 := fun x Q n => ∃ b, mIs c no x = some b ∧ Q (.bl b) n
end
end DL
namespace DL
open PySem L2
section
variable {Z : Cz} {X : Cx} {e : Expr} {es : List Expr} {pos p p2 : Pos} {Ex : PX → Pd} {k c : Nat} {f : Addr} {fd : FuncData} {ps : List Str} {Di : DSi} {x : Str} {dps : List PV} {dvs : List V}
theorem pass_no : Passes (L2.CX X.prog X.w) X (fun _ _ _ => False) := fun pins σ H s e s' I h => by
  obtain ⟨a, B, h1, h2, h3, h4, h5, h6, h7, h8, h9, h10, z⟩ := h
  exact z.elim
end
end DL
namespace DL
open PySem L2
section
variable {Z : Cz} {X : Cx} {e : Expr} {te : DT}
def gRev : G1 := fun x Q n => match x with
  | .lst xs => Q (.lst xs.reverse) n
  | .scr xs => Q (.lst xs.reverse) n
  | _ => False
end
end DL
set_option maxRecDepth 100000
set_option maxHeartbeats 2000000
namespace DLX
open PySem
section
variable {prog : Program} {w : World} {A : Around} {E : Value → Shared → Prop} {s : Shared}
end
end DLX
namespace DL
open PySem L2
section
variable {Z : Cz} {X : Cx} {k c : Nat} {f : Addr} {fd : FuncData} {ps : List Str} {D : DSp}
def gBoolO (c : Nat) (D : DSp) : G1 := fun x Q n => ∃ vs, x = .ins c vs ∧ D [x] (fun p n => ∃ b, p = .bl b ∧ Q (.bl b) n) (fun _ _ => False) n
end
end DL
set_option maxRecDepth 100000
set_option maxHeartbeats 1000000
namespace DL
open PySem L2 GF
abbrev nl (l : List Nat) : List PV := l.map fun (b : Nat) => PV.int (b : Int)
@[irreducible] def xAdd : G2 := gAdd
@[irreducible] def xSub : G2 := gII TT2 fun i j => .int (i - j)
@[irreducible] def xMul : G2 := gMul
@[irreducible] def xFdv : G2 := gII CDivW fun i j => .int (i / j)
@[irreducible] def xMod : G2 := gII (fun _ j => 0 < j) fun i j => .int (i % j)
@[irreducible] def xPow : G2 := gII CPow fun i j => .int (i ^ j.toNat)
@[irreducible] def xShl : G2 := gII CShl fun i j => .int (i * 2 ^ j.toNat)
@[irreducible] def xShr : G2 := gII (fun _ j => 0 ≤ j) fun i j => .int (i / 2 ^ j.toNat)
@[irreducible] def xAnd : G2 := gII TT2 fun i j => .int (Builtin.bitAnd i j)
@[irreducible] def xOr : G2 := gII TT2 fun i j => .int (Builtin.bitOr i j)
@[irreducible] def xXor : G2 := gII TT2 fun i j => .int (Builtin.bitXor i j)
@[irreducible] def xIadd : G2 := gII TT2 fun i j => .int (i + j)
@[irreducible] def xImul : G2 := gII CMul fun i j => .int (i * j)
@[irreducible] def xLt : G2 := gII TT2 fun i j => .bl (decide (i < j))
@[irreducible] def xLe : G2 := gII TT2 fun i j => .bl (decide (i ≤ j))
@[irreducible] def xGt : G2 := gII TT2 fun i j => .bl (decide (j < i))
@[irreducible] def xGe : G2 := gII TT2 fun i j => .bl (decide (j ≤ i))
@[irreducible] def xEq : G2 := gEq
@[irreducible] def xNe : G2 := gNe
@[irreducible] def xIsN (neg : Bool) : G2 := gIsN neg
@[irreducible] def xIx : G2 := gIx
@[irreducible] def xMax : G2 := gMax2
@[irreducible] def xMin : G2 := gMin2
@[irreducible] def xNeg : G1 := gI1 fun i => .int (-i)
@[irreducible] def xLen : G1 := gLen
@[irreducible] def xInt : G1 := gInt
@[irreducible] def xBool : G1 := gBool
@[irreducible] def xList : G1 := gList
@[irreducible] def xTuple : G1 := gTuple
@[irreducible] def xSum : G1 := gSum
@[irreducible] def xRev : G1 := gRev
@[irreducible] def xBits : G1 := fun x Q n => ∃ i, x = .int i ∧ Q (.int (Builtin.Int.intBits i : Nat)) n
@[irreducible] def xTru : GB := gTru
@[irreducible] def xSl (x : PV) (lo hi : Option Int) (Q : PV → Pd) : Pd := gSl x lo hi Q
@[irreducible] def xApp (xs : List PV) (p : PV) (Q : List PV → Pd) : Pd := fun n => xs.length < sizeLine ∧ Q (xs ++ [p]) n
@[irreducible] def xPut (xs : List PV) (k p : PV) (Q : List PV → Pd) : Pd := fun t => ∃ j n, k = .int j ∧ ixN xs.length j = some n ∧ Q (xs.set n p) t
@[irreducible] def xRng1 (ps : List PV) (Q : List PV → Pd) : Pd := fun t => ∃ n : Int, ps = [.int n] ∧ (-(2 ^ 62) ≤ n ∧ n < 2 ^ 62) ∧ Q (rng 0 n.toNat) t
@[irreducible] def xRng2 (ps : List PV) (Q : List PV → Pd) : Pd := fun t => ∃ i j : Int, ps = [.int i, .int j] ∧ (-(2 ^ 62) ≤ i ∧ i < 2 ^ 62 ∧ -(2 ^ 62) ≤ j ∧ j < 2 ^ 62) ∧ Q (rng i (j - i).toNat) t
@[irreducible] def xEnum (ps : List PV) (Q : List PV → Pd) : Pd := fun t => ∃ xs, (ps = [.lst xs] ∨ ps = [.scr xs]) ∧ Q (enumP xs) t
@[irreducible] def xZip (ps : List PV) (Q : List PV → Pd) : Pd := fun t => ∃ xs ys, ((ps = [.lst xs, .lst ys]) ∨ (ps = [.tup xs, .tup ys])) ∧ Q (zipP xs ys) t
@[irreducible] def xNRep (x y : PV) (Q : List PV → Pd) : Pd := fun n => ∃ xs k, x = .lst xs ∧ y = .int k ∧ (-(2 ^ 63) ≤ k ∧ k < 2 ^ 63 ∧ xs.length * k.toNat ≤ sizeLine) ∧ Q (List.replicate k.toNat xs).flatten n
@[irreducible] def xNCat (x y : PV) (Q : List PV → Pd) : Pd := fun n => ∃ xs ys, x = .lst xs ∧ y = .lst ys ∧ xs.length + ys.length ≤ sizeLine ∧ Q (xs ++ ys) n
@[irreducible] def xNList (x : PV) (Q : List PV → Pd) : Pd := fun n => ∃ xs, (x = .tup xs ∨ x = .lst xs ∨ x = .scr xs ∨ ∃ k, x = .box k ∧ n.isL k xs) ∧ Q xs n
inductive SetTo : Rho → Nat → Slot → Rho → Prop
  | zero {a : Slot} {l : Rho} {s : Slot} : SetTo (a :: l) 0 s (s :: l)
  | succ {a : Slot} {l l' : Rho} {i : Nat} {s : Slot} : SetTo l i s l' → SetTo (a :: l) (i + 1) s (a :: l')
theorem SetTo.eq {ρ ρ' : Rho} {i : Nat} {s : Slot} (h : SetTo ρ i s ρ') : ρ.set i s = ρ' := by
  induction h with
  | zero => rfl
  | succ _ ih => rw [List.set_cons_succ, ih]
@[irreducible] def xSet (ρ : Rho) (i : Nat) (s : Slot) (Q : Rho → Pd) : Pd := Q (ρ.set i s)
theorem r_set {ρ ρ' : Rho} {i : Nat} {s : Slot} {Q : Rho → Pd} {n : Ck} (h : SetTo ρ i s ρ') (q : Q ρ' n) : xSet ρ i s Q n := by unfold xSet; rw [h.eq]; exact q
theorem r_start {t : DSt} {D : DEnds} {ρ ρ' : Rho} {n : Ck} (h : ρ = ρ') (q : t D ρ' n) : t D ρ n := h ▸ q
@[irreducible] def xIf (c : Bool) (A B : Pd) : Pd := if c = true then A else B
@[irreducible] def xLc (g : DTg) (tt : DB) (te : DT) (ρ : Rho) (xs acc : List PV) (Q : List PV → Pd) : Pd := fun n => xs.length < sizeLine ∧ dLcL g tt te ρ xs acc Q n
section
variable {Z : Cz} {X : Cx} {e a b o : Expr} {es rest : List Expr} {pos p apos cpos p2 : Pos} {ta tb te t t' : DT} {tc : DB} {f : Value → Value → Sem Value} {f1 : Value → Sem Value} {fv : Value} {g g' : G2} {h h' : G1} {k k' : GN}
theorem DOp.x (H : DOp Z X f g) (E : g' = g) : DOp Z X f g' := E ▸ H
theorem DUn.x (H : DUn Z X f1 h) (E : h' = h) : DUn Z X f1 h' := E ▸ H
theorem DCall.x (H : DCall Z X fv k) (E : k' = k) : DCall Z X fv k' := E ▸ H
theorem DE.x (H : DE Z X e t) (E : t' = t) : DE Z X e t' := E ▸ H
theorem xop_add : DOp Z X (binaryOp .Add) xAdd := dop_add.x (by unfold xAdd; rfl)
theorem xop_sub : DOp Z X (binaryOp .Sub) xSub := dop_sub.x (by unfold xSub; rfl)
theorem xop_mul : DOp Z X (binaryOp .Mult) xMul := dop_mul.x (by unfold xMul; rfl)
theorem xop_shl : DOp Z X (binaryOp .LShift) xShl := dop_shl.x (by unfold xShl; rfl)
theorem xop_shr : DOp Z X (binaryOp .RShift) xShr := dop_shr.x (by unfold xShr; rfl)
theorem xop_and : DOp Z X (binaryOp .BitAnd) xAnd := dop_and.x (by unfold xAnd; rfl)
theorem xop_or : DOp Z X (binaryOp .BitOr) xOr := dop_or.x (by unfold xOr; rfl)
theorem xop_xor : DOp Z X (binaryOp .BitXor) xXor := dop_xor.x (by unfold xXor; rfl)
theorem xiop_add : DOp Z X (inplaceOp .Add) xIadd := diop_add.x (by unfold xIadd; rfl)
theorem xop_lt : DOp Z X (compareOp .Lt) xLt := dop_lt.x (by unfold xLt; rfl)
theorem xop_le : DOp Z X (compareOp .LtE) xLe := dop_le.x (by unfold xLe; rfl)
theorem xop_gt : DOp Z X (compareOp .Gt) xGt := dop_gt.x (by unfold xGt; rfl)
theorem xop_ge : DOp Z X (compareOp .GtE) xGe := dop_ge.x (by unfold xGe; rfl)
theorem xop_eq (hu : X.A.units + 64 < cLine) : DOp Z X (compareOp .Eq) xEq := (dop_eq hu).x (by unfold xEq; rfl)
theorem xop_ne (hu : X.A.units + 64 < cLine) : DOp Z X (compareOp .NotEq) xNe := (dop_ne hu).x (by unfold xNe; rfl)
theorem xun_neg : DUn Z X (unaryOp .USub) xNeg := dun_neg.x (by unfold xNeg; rfl)
theorem xc_len : DCall Z X (.builtin "len") (gN1 xLen) := dc_len.x (by unfold xLen; rfl)
theorem xc_sum (hc : X.calm = true) : DCall Z X (.builtin "sum") (gN1 xSum) := (dc_sum hc).x (by unfold xSum; rfl)
theorem xc_min2 (hc : X.calm = true) : DCall Z X (.builtin "min") (gN2 xMin) := (dc_min2 hc).x (by unfold xMin; rfl)
theorem xtru : DTru Z X xTru := by unfold xTru; exact dtru
theorem xe_nat (k : Nat) {i : Int} {j} (h : i = (k : Int) := by rfl) : DE Z X (.Constant (.int i) j pos) (dC (.int (k : Nat))) := h ▸ de_int
theorem DG.x {tg : Expr} {u u' : DTg} (H : DG Z X tg u) (E : u' = u) : DG Z X tg u' := E ▸ H
theorem DGn.x {tg : Expr} {vs : List Nat} {u u' : DTg} (H : DGn Z X tg vs u) (E : u' = u) : DGn Z X tg vs u' := E ▸ H
theorem DI.x {tg it : Expr} {u u' : DIt} (H : DI Z X tg it u) (E : u' = u) : DI Z X tg it u' := E ▸ H
theorem DS.x {st : Stmt} {u u' : DSt} (H : DS Z X st u) (E : u' = u) : DS Z X st u' := E ▸ H
theorem DNw.x {u u' : DN} (H : DNw Z X e u) (E : u' = u) : DNw Z X e u' := E ▸ H
end
def zSl (te : DT) (tl th : DO) : DT := fun ρ Q => te ρ fun x => tl ρ fun l => th ρ fun u => xSl x l u Q
def zRng1 (ta : DA) : DIt := fun ρ Q => ta ρ fun ps => xRng1 ps Q
def zRng2 (ta : DA) : DIt := fun ρ Q => ta ρ fun ps => xRng2 ps Q
def zEnum (ta : DA) : DIt := fun ρ Q => ta ρ fun ps => xEnum ps Q
def zZip (ta : DA) : DIt := fun ρ Q => ta ρ fun ps => xZip ps Q
def zApp (i : Nat) (te : DT) : DSt := fun D ρ => onOwn i ρ fun _ => te ρ fun p => onOwn i ρ fun xs => xApp xs p fun ys => xSet ρ i (.own ys) D.nx
def zPut (i : Nat) (te ti : DT) : DSt := fun D ρ => onOwn i ρ fun _ => te ρ fun p => ti ρ fun k => onOwn i ρ fun xs => xPut xs k p fun ys => xSet ρ i (.own ys) D.nx
def zIxO (i : Nat) (tb : DT) : DT := fun ρ Q => onOwn i ρ fun xs => tb ρ fun k => xIx (.lst xs) k Q
def zRep (ta tb : DT) : DN := fun ρ Q => ta ρ fun x => tb ρ fun y => xNRep x y Q
def zCat (ta tb : DT) : DN := fun ρ Q => ta ρ fun x => tb ρ fun y => xNCat x y Q
def zList (ta : DT) : DN := fun ρ Q => ta ρ fun x => xNList x Q
def xWipe (ρ : Rho) : List Nat → (Rho → Pd) → Pd
  | [], K => K ρ
  | v :: vs, K => xWipe ρ vs fun ρ' => xSet ρ' v .no K
theorem xWipe_eq : ∀ (vs : List Nat) (ρ : Rho) (K : Rho → Pd), xWipe ρ vs K = K (wipeR ρ vs)
  | [], _, _ => rfl
  | v :: vs, ρ, K => by unfold xWipe wipeR xSet; exact xWipe_eq vs ρ _
def zLc (ti : DIt) (g : DTg) (tt : DB) (te : DT) (vs : List Nat) : DN := fun ρ Q => ti ρ fun xs => xWipe ρ vs fun ρ' => xLc g tt te ρ' xs [] Q
def zNm (i : Nat) : DTg := fun p ρ Q => xSet ρ i (.fz p) Q
def zAug (i : Nat) (te : DT) (g : G2) : DSt := fun D ρ n => match ρ[i]? with
  | some (.fz x) => te ρ (fun y => g x y fun z => xSet ρ i (.fz z) D.nx) n
  | _ => False
def zPar (i j : Nat) (ta : DA) : DSt := fun D ρ => ta ρ fun ps n => match ps with
  | [p, q] => xSet ρ i (.fz p) (fun ρ' => xSet ρ' j (.fz q) D.nx) n
  | _ => False
def zOwn (i : Nat) (t : DN) : DSt := fun D ρ => t ρ fun xs => xSet ρ i (.own xs) D.nx
def zFrz (i : Nat) (t : DSt) : DSt := fun D ρ n => match ρ[i]? with
  | some (.own xs) => xSet ρ i (.fz (.lst xs)) (t D) n
  | _ => t D ρ n
def zPeek (i : Nat) (t : DT) : DT := fun ρ Q n => match ρ[i]? with
  | some (.own xs) => xSet ρ i (.fz (.lst xs)) (fun ρ' => t ρ' (fun p m => p.scal = true ∧ m.v = n.v ∧ Q p m)) n
  | _ => t ρ Q n
def zPeekB (i : Nat) (t : DB) : DB := fun ρ Q n => match ρ[i]? with
  | some (.own xs) => xSet ρ i (.fz (.lst xs)) (fun ρ' => t ρ' (fun b m => m.v = n.v ∧ Q b m)) n
  | _ => t ρ Q n
def zSelfSet (i : Nat) (f : Str) (fn : Nat → List Str) (ok : Nat → Prop) (te : DT) : DSt := fun D ρ => te ρ fun p n => ∃ a c vs, ρ[i]? = some (.slf a c vs) ∧ ok c ∧ (fn c)[vs.length]? = some f ∧ xSet ρ i (.slf a c (vs ++ [p])) D.nx n
section
variable {ta tb te : DT} {tl th : DO} {t : DA} {i : Nat} {ti : DIt} {g : DTg} {tt : DB} {vs : List Nat}
theorem eIx : dBin xIx ta tb = dBin gIx ta tb := by unfold xIx; rfl
theorem eSl : zSl te tl th = dSl te tl th := by unfold zSl dSl xSl; rfl
theorem eBits : dUn xBits te = dBits te := by unfold xBits; rfl
theorem eRng2 : zRng2 t = dRng2 t := by unfold zRng2 dRng2 xRng2; rfl
theorem eApp : zApp i te = fun D ρ => onOwn i ρ fun _ => dApnd i te D ρ := by unfold zApp dApnd xApp xSet; rfl
theorem eLc : zLc ti g tt te vs = nLc ti g tt te vs := by
  unfold zLc nLc
  funext ρ Q
  refine congrArg (ti ρ) (funext fun xs => ?_)
  rw [xWipe_eq]
  unfold xLc; rfl
theorem eNm : zNm i = dNm i := by unfold zNm dNm xSet; rfl
theorem eAug {g2 : G2} : zAug i te g2 = dAug i te g2 := by unfold zAug dAug xSet; rfl
theorem ePar {j : Nat} : zPar i j t = dPar i j t := by unfold zPar dPar xSet; rfl
theorem eOwn {u u' : DN} (h : u' = u) : zOwn i u' = dOwn i u := by subst h; unfold zOwn dOwn xSet; rfl
theorem eFrz {u : DSt} : zFrz i u = dFrz i u := by unfold zFrz dFrz xSet; rfl
theorem ePeekB : zPeekB i tt = dPeekB i tt := by unfold zPeekB dPeekB xSet; rfl
theorem eSelf {f : Str} {fn : Nat → List Str} {ok : Nat → Prop} : zSelfSet i f fn ok te = dSelfSet i f fn ok te := by unfold zSelfSet dSelfSet xSet; rfl
def wn (D : DEnds) (k : Rho → Pd) : DEnds := { D with nx := k }
def lp (D : DEnds) (k : Rho → Pd) : DEnds := { nx := k, ct := k, bk := D.nx, rt := D.rt }
def zSeq (t u : DSt) : DSt := fun D ρ => t (wn D (u D)) ρ
theorem eSeq {t u : DSt} : zSeq t u = dSeq t u := rfl
theorem DSs.x {Z : Cz} {X : Cx} {b : List Stmt} {u u' : DSt} (H : DSs Z X b u) (E : u' = u) : DSs Z X b u' := E ▸ H
theorem xIf_ite {c : Bool} {A B : Pd} : xIf c A B = if c = true then A else B := by unfold xIf; rfl
def zIf (c : DB) (t u : DSt) : DSt := fun D ρ => c ρ fun b => xIf b (t D ρ) (u D ρ)
def zAnd (t u : DB) : DB := fun ρ Q => t ρ fun c => xIf c (u ρ Q) (Q false)
def zOr (t u : DB) : DB := fun ρ Q => t ρ fun c => xIf c (Q true) (u ρ Q)
def zIfE (t : DB) (ta tb : DT) : DT := fun ρ Q => t ρ fun c => xIf c (ta ρ Q) (tb ρ Q)
def zAndV (ta tb : DT) : DT := fun ρ Q => ta ρ fun x => xTru x fun k => xIf k (tb ρ Q) (Q x)
def zOrV (ta tb : DT) : DT := fun ρ Q => ta ρ fun x => xTru x fun k => xIf k (Q x) (tb ρ Q)
def zNotV (ta : DT) : DT := fun ρ Q => ta ρ fun x => xTru x fun k => Q (.bl (!k))
def zChain (g g' : G2) (ta tb tc : DT) : DT := fun ρ Q => ta ρ fun x => tb ρ fun y => g x y fun z n => match z with
  | .bl k => xIf k (tc ρ (fun z => g' y z Q)) (Q (.bl false)) n
  | _ => False
section
variable {c t u : DB} {ts us : DSt} {ta tb tc : DT} {g g' : G2}
theorem eIf : zIf c ts us = dIf c ts us := by unfold zIf dIf xIf; rfl
theorem eOr : zOr t u = dOr t u := by unfold zOr dOr xIf; rfl
theorem DW.x {Z : Cz} {X : Cx} {e : Expr} (H : DW Z X e t) (E : u = t) : DW Z X e u := E ▸ H
theorem DTs.x {Z : Cz} {X : Cx} {e : Expr} (H : DTs Z X e t) (E : u = t) : DTs Z X e u := E ▸ H
end
end
section
variable {Q : PV → Pd} {n : Ck} {a b k : Nat} {i j : Int} {α β : Type} {f : α → PV} {f' : β → PV} {l : List α} {l' : List β} {xs ys : List PV} {x y : PV}
theorem r_add_nn (q : Q (.int (a + b : Nat)) n) : xAdd (.int a) (.int b) Q n := by unfold xAdd; exact q
theorem r_add_ii (q : Q (.int (i + j)) n) : xAdd (.int i) (.int j) Q n := by unfold xAdd; exact q
theorem map_app {f : α → PV} {a b : List α} {Q : List PV → Prop} (q : Q ((a ++ b).map f)) : Q (a.map f ++ b.map f) := by rw [← List.map_append]; exact q
theorem r_add_lm {l2 : List α} (h : l.length + l2.length ≤ 1000000) (q : Q (.lst ((l ++ l2).map f)) n) : xAdd (.lst (l.map f)) (.lst (l2.map f)) Q n := by
  unfold xAdd; exact ⟨by rw [List.length_map, List.length_map]; exact Nat.le_trans h (by decide), map_app (Q := fun z => Q (.lst z) n) q⟩
theorem r_add_tm {l2 : List α} (h : l.length + l2.length ≤ 1000000) (q : Q (.tup ((l ++ l2).map f)) n) : xAdd (.tup (l.map f)) (.tup (l2.map f)) Q n := by
  unfold xAdd; exact ⟨by rw [List.length_map, List.length_map]; exact Nat.le_trans h (by decide), map_app (Q := fun z => Q (.tup z) n) q⟩
theorem r_add_ll (h : xs.length + ys.length ≤ 1000000) (q : Q (.lst (xs ++ ys)) n) : xAdd (.lst xs) (.lst ys) Q n := by unfold xAdd; exact ⟨Nat.le_trans h (by decide), q⟩
theorem r_add_tt (h : xs.length + ys.length ≤ 1000000) (q : Q (.tup (xs ++ ys)) n) : xAdd (.tup xs) (.tup ys) Q n := by unfold xAdd; exact ⟨Nat.le_trans h (by decide), q⟩
theorem r_iadd_nn (q : Q (.int (a + b : Nat)) n) : xIadd (.int a) (.int b) Q n := by unfold xIadd; exact ⟨trivial, q⟩
theorem r_iadd_ii (q : Q (.int (i + j)) n) : xIadd (.int i) (.int j) Q n := by unfold xIadd; exact ⟨trivial, q⟩
theorem r_sub_nn (h : b ≤ a) (q : Q (.int (a - b : Nat)) n) : xSub (.int a) (.int b) Q n := by
  unfold xSub; exact ⟨trivial, by rw [Int.ofNat_sub h] at q; exact q⟩
theorem r_sub_ii (q : Q (.int (i - j)) n) : xSub (.int i) (.int j) Q n := by unfold xSub; exact ⟨trivial, q⟩
theorem bl_lt64 {a : Nat} (h : a < 2 ^ 64) : bl a ≤ 64 := bl_le h
theorem r_mul_nn (h : bl a + bl b ≤ 134217728) (q : Q (.int (a * b : Nat)) n) : xMul (.int a) (.int b) Q n := by
  unfold xMul; exact ⟨by show ((Builtin.Int.intBits (a : Int) : Nat) : Int) + ((Builtin.Int.intBits (b : Int) : Nat) : Int) ≤ 134217728; rw [ib, ib]; omega, q⟩
theorem r_mul_ss (h1 : a < 2 ^ 64) (h2 : b < 2 ^ 64) (q : Q (.int (a * b : Nat)) n) : xMul (.int a) (.int b) Q n := r_mul_nn (by have := bl_lt64 h1; have := bl_lt64 h2; omega) q
theorem rep_map {v : α} {k : Nat} : (List.replicate k [f v]).flatten = (List.replicate k v).map f := by
  induction k with
  | zero => rfl
  | succ k ih => rw [List.replicate_succ, List.flatten_cons, ih, List.replicate_succ]; rfl
theorem rep_nl {v : Nat} {k : Nat} : (List.replicate k [PV.int (v : Int)]).flatten = nl (List.replicate k v) := rep_map (f := fun (b : Nat) => PV.int (b : Int))
theorem flat_map {k : Nat} : (List.replicate k (l.map f)).flatten = ((List.replicate k l).flatten).map f := by
  induction k with
  | zero => rfl
  | succ k ih => rw [List.replicate_succ, List.flatten_cons, ih, List.replicate_succ, List.flatten_cons, List.map_append]
theorem r_rep_n {v : Nat} (h : k ≤ 1000000) (q : Q (.lst (nl (List.replicate k v))) n) : xMul (.lst [.int v]) (.int k) Q n := by
  unfold xMul; exact ⟨⟨by omega, by omega, by simp; exact Nat.le_trans h (by decide)⟩, by rw [← rep_nl] at q; exact q⟩
theorem r_rep_m (h : k ≤ 1000000) (h2 : l.length * k ≤ 1000000) (q : Q (.lst (((List.replicate k l).flatten).map f)) n) : xMul (.lst (l.map f)) (.int k) Q n := by
  unfold xMul; exact ⟨⟨by omega, by omega, by rw [List.length_map]; exact Nat.le_trans h2 (by decide)⟩, by rw [← flat_map] at q; exact q⟩
theorem r_imul_nn (h : a < 2 ^ 64) (q : Q (.int (a * b : Nat)) n) : xImul (.int a) (.int b) Q n := by unfold xImul; exact ⟨.inl ⟨by omega, by omega⟩, q⟩
theorem log2_lt {b : Nat} (h : b < 2 ^ 64) : (b : Int).natAbs.log2 < 9000 := by
  show b.log2 < 9000
  by_cases c : b = 0
  · subst c; decide
  · exact Nat.lt_trans ((Nat.log2_lt c).2 h) (by decide)
theorem r_fdv_nn (h0 : 0 < b) (h : b < 2 ^ 64) (q : Q (.int (a / b : Nat)) n) : xFdv (.int a) (.int b) Q n := by unfold xFdv; exact ⟨⟨by omega, log2_lt h⟩, q⟩
theorem r_mod_nn (h0 : 0 < b) (q : Q (.int (a % b : Nat)) n) : xMod (.int a) (.int b) Q n := by unfold xMod; exact ⟨by omega, q⟩
theorem r_mod_ii (h : 0 < j) (q : Q (.int (i % j)) n) : xMod (.int i) (.int j) Q n := by unfold xMod; exact ⟨h, q⟩
theorem r_pow_nn (h1 : b ≤ 1000000) (h2 : a < 2 ^ 64) (q : Q (.int (a ^ b : Nat)) n) : xPow (.int a) (.int b) Q n := by
  unfold xPow; exact ⟨⟨by omega, by omega, by show a < _; exact h2⟩, by rw [Int.natCast_pow] at q; exact q⟩
theorem r_shl_one (h : b ≤ 100000000) (q : Q (.int (2 ^ b : Nat)) n) : xShl (.int (1 : Nat)) (.int b) Q n := by
  unfold xShl; exact ⟨shl_small (a := 1) (by have : bl 1 = 1 := (by decide); omega), by have := il 1 b; rw [Nat.one_mul] at this; rw [← this] at q; exact q⟩
theorem r_shl_nn (h : bl a + b ≤ 2 ^ 27) (q : Q (.int (a * 2 ^ b : Nat)) n) : xShl (.int a) (.int b) Q n := by unfold xShl; exact ⟨shl_small h, by rw [← il] at q; exact q⟩
theorem r_shr_one (q : Q (.int (a / 2 : Nat)) n) : xShr (.int a) (.int (1 : Nat)) Q n := by unfold xShr; exact ⟨by omega, q⟩
theorem r_shr_nn (q : Q (.int (a / 2 ^ b : Nat)) n) : xShr (.int a) (.int b) Q n := by unfold xShr; exact ⟨by omega, by rw [← ir] at q; exact q⟩
theorem r_and_one (q : Q (.int (a % 2 : Nat)) n) : xAnd (.int a) (.int (1 : Nat)) Q n := by unfold xAnd; exact ⟨trivial, by rw [← ia1] at q; exact q⟩
theorem r_and_nn (q : Q (.int (a &&& b : Nat)) n) : xAnd (.int a) (.int b) Q n := by unfold xAnd; exact ⟨trivial, by rw [← ia] at q; exact q⟩
theorem r_or_nn (q : Q (.int (a ||| b : Nat)) n) : xOr (.int a) (.int b) Q n := by unfold xOr; exact ⟨trivial, by rw [← io] at q; exact q⟩
theorem r_xor_nn (q : Q (.int (a ^^^ b : Nat)) n) : xXor (.int a) (.int b) Q n := by unfold xXor; exact ⟨trivial, by rw [← ix] at q; exact q⟩
theorem r_neg (q : Q (.int (-i)) n) : xNeg (.int i) Q n := by unfold xNeg; exact q
theorem r_lt_nn (q : Q (.bl (decide (a < b))) n) : xLt (.int a) (.int b) Q n := by unfold xLt; exact ⟨trivial, by simpa only [Int.ofNat_lt] using q⟩
theorem r_le_nn (q : Q (.bl (decide (a ≤ b))) n) : xLe (.int a) (.int b) Q n := by unfold xLe; exact ⟨trivial, by simpa only [Int.ofNat_le] using q⟩
theorem r_gt_nn (q : Q (.bl (decide (b < a))) n) : xGt (.int a) (.int b) Q n := by unfold xGt; exact ⟨trivial, by simpa only [Int.ofNat_lt] using q⟩
theorem r_ge_nn (q : Q (.bl (decide (b ≤ a))) n) : xGe (.int a) (.int b) Q n := by unfold xGe; exact ⟨trivial, by simpa only [Int.ofNat_le] using q⟩
theorem r_lt_ii (q : Q (.bl (decide (i < j))) n) : xLt (.int i) (.int j) Q n := by unfold xLt; exact ⟨trivial, q⟩
theorem r_le_ii (q : Q (.bl (decide (i ≤ j))) n) : xLe (.int i) (.int j) Q n := by unfold xLe; exact ⟨trivial, q⟩
theorem r_gt_ii (q : Q (.bl (decide (j < i))) n) : xGt (.int i) (.int j) Q n := by unfold xGt; exact ⟨trivial, q⟩
theorem r_ge_ii (q : Q (.bl (decide (j ≤ i))) n) : xGe (.int i) (.int j) Q n := by unfold xGe; exact ⟨trivial, q⟩
end
end DL
set_option maxRecDepth 100000
set_option maxHeartbeats 1000000
namespace DL
open PySem L2 GF
mutual
def PV.pl : Nat → PV → Bool
  | _, .non => true
  | _, .int _ => true
  | _, .str s => PyData.strOk s
  | n + 1, .tup xs => PV.pls n xs
  | n + 1, .lst xs => PV.pls n xs
  | _, _ => false
def PV.pls : Nat → List PV → Bool
  | _, [] => true
  | n, x :: xs => PV.pl n x && PV.pls n xs
end
mutual
theorem pl_ok : ∀ (x : PV) (n : Nat), x.pl n = true → x.okD n = true
  | .non, 0, _ | .non, _ + 1, _ => rfl
  | .int _, 0, _ | .int _, _ + 1, _ => rfl
  | .str _, 0, h | .str _, _ + 1, h => h
  | .tup xs, n + 1, h => by simp only [PV.pl] at h; simp only [PV.okD]; exact pls_ok xs n h
  | .lst xs, n + 1, h => by simp only [PV.pl] at h; simp only [PV.okD]; exact pls_ok xs n h
  | .tup _, 0, h | .lst _, 0, h | .bl _, 0, h | .bl _, _ + 1, h | .scr _, 0, h | .scr _, _ + 1, h | .ins _ _, 0, h | .ins _ _, _ + 1, h | .box _, 0, h | .box _, _ + 1, h | .raw _, 0, h | .raw _, _ + 1, h => by simp [PV.pl] at h
theorem pls_ok : ∀ (xs : List PV) (n : Nat), PV.pls n xs = true → PV.okDs n xs = true
  | [], 0, _ | [], _ + 1, _ => rfl
  | x :: xs, n, h => by
    simp only [PV.pls, Bool.and_eq_true] at h
    simp only [PV.okDs, Bool.and_eq_true]
    exact ⟨pl_ok x n h.1, pls_ok xs n h.2⟩
end
mutual
theorem peq_iff : ∀ (x y : PV) (n m : Nat), x.pl n = true → y.pl m = true → (peq x y = true ↔ x = y)
  | .non, .non, _, _, _, _ => by simp [peq]
  | .int i, .int j, _, _, _, _ => by simp [peq]
  | .str i, .str j, _, _, _, _ => by simp [peq]
  | .tup xs, .tup ys, n, m, h, g => by
    cases n <;> cases m <;> simp only [PV.pl, Bool.false_eq_true] at h g
    simp only [peq, PV.tup.injEq]
    exact peqs_iff xs ys _ _ h g
  | .lst xs, .lst ys, n, m, h, g => by
    cases n <;> cases m <;> simp only [PV.pl, Bool.false_eq_true] at h g
    simp only [peq, PV.lst.injEq]
    exact peqs_iff xs ys _ _ h g
  | .non, .int _, _, _, _, _ | .non, .str _, _, _, _, _ | .non, .tup _, _, _, _, _ | .non, .lst _, _, _, _, _ => by simp [peq]
  | .int _, .non, _, _, _, _ | .int _, .str _, _, _, _, _ | .int _, .tup _, _, _, _, _ | .int _, .lst _, _, _, _, _ => by simp [peq]
  | .str _, .non, _, _, _, _ | .str _, .int _, _, _, _, _ | .str _, .tup _, _, _, _, _ | .str _, .lst _, _, _, _, _ => by simp [peq]
  | .tup _, .non, _, _, _, _ | .tup _, .int _, _, _, _, _ | .tup _, .str _, _, _, _, _ | .tup _, .lst _, _, _, _, _ => by simp [peq]
  | .lst _, .non, _, _, _, _ | .lst _, .int _, _, _, _, _ | .lst _, .str _, _, _, _, _ | .lst _, .tup _, _, _, _, _ => by simp [peq]
  | .bl _, _, n, _, h, _ | .scr _, _, n, _, h, _ | .ins _ _, _, n, _, h, _ | .box _, _, n, _, h, _ | .raw _, _, n, _, h, _ => by cases n <;> simp [PV.pl] at h
  | _, .bl _, _, n, _, h | _, .scr _, _, n, _, h | _, .ins _ _, _, n, _, h | _, .box _, _, n, _, h | _, .raw _, _, n, _, h => by cases n <;> simp [PV.pl] at h
theorem peqs_iff : ∀ (xs ys : List PV) (n m : Nat), PV.pls n xs = true → PV.pls m ys = true → (peqs xs ys = true ↔ xs = ys)
  | [], [], _, _, _, _ => by simp [peqs]
  | [], _ :: _, _, _, _, _ => by simp [peqs]
  | _ :: _, [], _, _, _, _ => by simp [peqs]
  | x :: xs, y :: ys, n, m, h, g => by
    simp only [PV.pls, Bool.and_eq_true] at h g
    simp only [peqs, Bool.and_eq_true, List.cons.injEq]
    rw [peq_iff x y n m h.1 g.1, peqs_iff xs ys n m h.2 g.2]
end
theorem pls_map {α : Type} {f : α → PV} {d : Nat} : ∀ {l : List α}, (∀ a ∈ l, (f a).pl d = true) → PV.pls d (l.map f) = true
  | [], _ => by cases d <;> rfl
  | a :: l, h => by
    simp only [List.map_cons, PV.pls, Bool.and_eq_true]
    exact ⟨h a (List.mem_cons_self ..), pls_map fun b hb => h b (List.mem_cons_of_mem _ hb)⟩
theorem pls_nl {l : List Nat} {d : Nat} : PV.pls d (nl l) = true := pls_map fun a _ => by cases d <;> rfl
theorem map_inj {α : Type} {f : α → PV} (hf : ∀ a b, f a = f b → a = b) : ∀ {l m : List α}, l.map f = m.map f → l = m
  | [], [], _ => rfl
  | [], _ :: _, h => by simp at h
  | _ :: _, [], h => by simp at h
  | a :: l, b :: m, h => by
    simp only [List.map_cons, List.cons.injEq] at h
    rw [hf a b h.1, map_inj hf h.2]
theorem nl_inj {a b : List Nat} : nl a = nl b ↔ a = b := ⟨fun h => map_inj (fun x y h => by have := PV.int.inj h; omega) h, fun h => by rw [h]⟩
mutual
theorem okD_le : ∀ (x : PV) (n m : Nat), x.okD n = true → n ≤ m → x.okD m = true
  | .non, n, m, _, _ => by cases m <;> rfl
  | .bl _, n, m, _, _ => by cases m <;> rfl
  | .int _, n, m, _, _ => by cases m <;> rfl
  | .str _, n, m, h, _ => by cases n <;> cases m <;> exact h
  | .tup xs, n, m, h, g => by
    cases n with
    | zero => simp [PV.okD] at h
    | succ n =>
      cases m with
      | zero => omega
      | succ m => simp only [PV.okD] at h ⊢; exact okDs_le xs n m h (by omega)
  | .lst xs, n, m, h, g => by
    cases n with
    | zero => simp [PV.okD] at h
    | succ n =>
      cases m with
      | zero => omega
      | succ m => simp only [PV.okD] at h ⊢; exact okDs_le xs n m h (by omega)
  | .scr xs, n, m, h, g => by
    cases n with
    | zero => simp [PV.okD] at h
    | succ n =>
      cases m with
      | zero => omega
      | succ m => simp only [PV.okD] at h ⊢; exact okDs_le xs n m h (by omega)
  | .ins _ _, n, m, h, _ => by cases n <;> simp [PV.okD] at h
  | .box _, n, m, h, _ => by cases n <;> simp [PV.okD] at h
  | .raw _, n, m, h, _ => by cases n <;> simp [PV.okD] at h
theorem okDs_le : ∀ (xs : List PV) (n m : Nat), PV.okDs n xs = true → n ≤ m → PV.okDs m xs = true
  | [], n, m, _, _ => by cases m <;> rfl
  | x :: xs, n, m, h, g => by
    simp only [PV.okDs, Bool.and_eq_true] at h ⊢
    exact ⟨okD_le x n m h.1 g, okDs_le xs n m h.2 g⟩
end
theorem okD_up {x : PV} (h : x.okD 50 = true) : x.okD 60 = true := okD_le x 50 60 h (by decide)
section
variable {Q : PV → Pd} {n : Ck} {a b k : Nat} {i j : Int} {α β : Type} {f : α → PV} {f' : β → PV} {l : List α} {l' : List β} {xs ys : List PV} {x y : PV}
theorem r_eq {p : Prop} [Decidable p] (px : x.pl 50 = true) (py : y.pl 50 = true) (h : x = y ↔ p) (q : Q (.bl (decide p)) n) : xEq x y Q n := by
  unfold xEq
  have e : peq x y = decide p := by
    have := (peq_iff x y 50 50 px py).trans h
    by_cases c : p
    · rw [decide_eq_true c]; exact this.2 c
    · rw [decide_eq_false c]; exact Bool.eq_false_iff.2 fun z => c (this.1 z)
  refine ⟨⟨?_, ?_⟩, by rw [e]; exact q⟩
  · have := pl_ok x 50 px
    exact okD_up this
  · exact okD_up (pl_ok y 50 py)
theorem r_ne {p : Prop} [Decidable p] (px : x.pl 50 = true) (py : y.pl 50 = true) (h : x = y ↔ p) (q : Q (.bl (!decide p)) n) : xNe x y Q n := by
  have := r_eq (Q := fun v => match v with | .bl b => Q (.bl (!b)) | _ => fun _ => False) (n := n) px py h q
  unfold xEq at this
  unfold xNe
  exact this
mutual
theorem peq_refl : ∀ (x : PV) (n : Nat), x.okD n = true → peq x x = true
  | .non, _, _ => rfl
  | .bl b, _, _ => by simp [peq]
  | .int i, _, _ => by simp [peq]
  | .str i, _, _ => by simp [peq]
  | .tup xs, n, h => by
    cases n with
    | zero => simp [PV.okD] at h
    | succ n => simp only [PV.okD] at h; simp only [peq]; exact peqs_refl xs n h
  | .lst xs, n, h => by
    cases n with
    | zero => simp [PV.okD] at h
    | succ n => simp only [PV.okD] at h; simp only [peq]; exact peqs_refl xs n h
  | .scr xs, n, h => by
    cases n with
    | zero => simp [PV.okD] at h
    | succ n => simp only [PV.okD] at h; simp only [peq]; exact peqs_refl xs n h
  | .ins _ _, n, h => by cases n <;> simp [PV.okD] at h
  | .box _, n, h => by cases n <;> simp [PV.okD] at h
  | .raw _, n, h => by cases n <;> simp [PV.okD] at h
theorem peqs_refl : ∀ (xs : List PV) (n : Nat), PV.okDs n xs = true → peqs xs xs = true
  | [], _, _ => rfl
  | x :: xs, n, h => by
    simp only [PV.okDs, Bool.and_eq_true] at h
    simp only [peqs, Bool.and_eq_true]
    exact ⟨peq_refl x n h.1, peqs_refl xs n h.2⟩
end
theorem r_eq_same (h : x.okD 60 = true) (e : y = x) (q : Q (.bl true) n) : xEq x y Q n := by
  subst e; unfold xEq; exact ⟨⟨h, h⟩, by rw [peq_refl _ _ h]; exact q⟩
theorem r_ne_same (h : x.okD 60 = true) (e : y = x) (q : Q (.bl false) n) : xNe x y Q n := by
  subst e; unfold xNe; exact ⟨⟨h, h⟩, by rw [peq_refl _ _ h]; exact q⟩
theorem ok_lst {d : Nat} {xs : List PV} (h : PV.okDs d xs = true) : (PV.lst xs).okD (d + 1) = true := by simpa only [PV.okD] using h
theorem ok_tup {d : Nat} {xs : List PV} (h : PV.okDs d xs = true) : (PV.tup xs).okD (d + 1) = true := by simpa only [PV.okD] using h
theorem oks_nl {d : Nat} {l : List Nat} : PV.okDs d (nl l) = true := pls_ok _ _ pls_nl
theorem r_eq_nn (q : Q (.bl (decide (a = b))) n) : xEq (.int a) (.int b) Q n := r_eq rfl rfl (by simp; omega) q
theorem r_ne_nn (q : Q (.bl (!decide (a = b))) n) : xNe (.int a) (.int b) Q n := r_ne rfl rfl (by simp; omega) q
theorem r_eq_ii (q : Q (.bl (decide (i = j))) n) : xEq (.int i) (.int j) Q n := r_eq rfl rfl (by simp) q
theorem r_ne_ii (q : Q (.bl (!decide (i = j))) n) : xNe (.int i) (.int j) Q n := r_ne rfl rfl (by simp) q
theorem r_eq_in (q : Q (.bl false) n) : xEq (.int i) .non Q n := r_eq (p := False) rfl rfl (by simp) (by simpa using q)
theorem r_ne_in (q : Q (.bl true) n) : xNe (.int i) .non Q n := r_ne (p := False) rfl rfl (by simp) (by simpa using q)
theorem r_ne_ni (q : Q (.bl true) n) : xNe .non (.int i) Q n := r_ne (p := False) rfl rfl (by simp) (by simpa using q)
theorem r_eq_ni (q : Q (.bl false) n) : xEq .non (.int i) Q n := r_eq (p := False) rfl rfl (by simp) (by simpa using q)
theorem r_eq_no (q : Q (.bl true) n) : xEq .non .non Q n := r_eq (p := True) rfl rfl (by simp) (by simpa using q)
theorem r_ne_no (q : Q (.bl false) n) : xNe .non .non Q n := r_ne (p := True) rfl rfl (by simp) (by simpa using q)
theorem pl_lst {d : Nat} {xs : List PV} (h : PV.pls d xs = true) : (PV.lst xs).pl (d + 1) = true := by simpa only [PV.pl] using h
theorem pl_tup {d : Nat} {xs : List PV} (h : PV.pls d xs = true) : (PV.tup xs).pl (d + 1) = true := by simpa only [PV.pl] using h
theorem r_eq_ln {a b : List Nat} (q : Q (.bl (decide (a = b))) n) : xEq (.lst (nl a)) (.lst (nl b)) Q n := r_eq (pl_lst pls_nl) (pl_lst pls_nl) (by rw [PV.lst.injEq, nl_inj]) q
theorem r_ne_ln {a b : List Nat} (q : Q (.bl (!decide (a = b))) n) : xNe (.lst (nl a)) (.lst (nl b)) Q n := r_ne (pl_lst pls_nl) (pl_lst pls_nl) (by rw [PV.lst.injEq, nl_inj]) q
theorem r_eq_tn {a b : List Nat} (q : Q (.bl (decide (a = b))) n) : xEq (.tup (nl a)) (.tup (nl b)) Q n := r_eq (pl_tup pls_nl) (pl_tup pls_nl) (by rw [PV.tup.injEq, nl_inj]) q
theorem r_ne_tn {a b : List Nat} (q : Q (.bl (!decide (a = b))) n) : xNe (.tup (nl a)) (.tup (nl b)) Q n := r_ne (pl_tup pls_nl) (pl_tup pls_nl) (by rw [PV.tup.injEq, nl_inj]) q
theorem r_eq_bb {a b : Bool} (q : Q (.bl (a == b)) n) : xEq (.bl a) (.bl b) Q n := by unfold xEq; exact ⟨⟨rfl, rfl⟩, q⟩
theorem r_ne_bb {a b : Bool} (q : Q (.bl (!(a == b))) n) : xNe (.bl a) (.bl b) Q n := by unfold xNe; exact ⟨⟨rfl, rfl⟩, q⟩
theorem r_is_b {c : Bool} (h : x.isNon = some c) (q : Q (.bl c) n) : xIsN false x .non Q n := by unfold xIsN; exact ⟨rfl, c, h, q⟩
theorem r_isnt_b {c : Bool} (h : x.isNon = some c) (q : Q (.bl (!c)) n) : xIsN true x .non Q n := by unfold xIsN; exact ⟨rfl, c, h, q⟩
theorem r_len_lm (q : Q (.int (l.length : Nat)) n) : xLen (.lst (l.map f)) Q n := by unfold xLen; show Q (.int ((l.map f).length : Nat)) n; rw [List.length_map]; exact q
theorem r_len_tm (q : Q (.int (l.length : Nat)) n) : xLen (.tup (l.map f)) Q n := by unfold xLen; show Q (.int ((l.map f).length : Nat)) n; rw [List.length_map]; exact q
theorem r_len_sm (q : Q (.int (l.length : Nat)) n) : xLen (.scr (l.map f)) Q n := by unfold xLen; show Q (.int ((l.map f).length : Nat)) n; rw [List.length_map]; exact q
theorem r_len_l (q : Q (.int (xs.length : Nat)) n) : xLen (.lst xs) Q n := by unfold xLen gLen; exact q
theorem r_len_t (q : Q (.int (xs.length : Nat)) n) : xLen (.tup xs) Q n := by unfold xLen gLen; exact q
theorem atI_nat {α : Type} {l : List α} {i : Nat} {v : α} (h : l[i]? = some v) : L2.atI l (i : Int) = some v := by
  unfold L2.atI
  rw [ixn_nat (List.getElem?_eq_some_iff.mp h).1]
  exact h
theorem r_ix_lm {v : α} (h : l[a]? = some v) (q : Q (f v) n) : xIx (.lst (l.map f)) (.int a) Q n := by
  unfold xIx; exact ⟨f v, atI_nat (by rw [List.getElem?_map, h]; rfl), q⟩
theorem r_ix_tm {v : α} (h : l[a]? = some v) (q : Q (f v) n) : xIx (.tup (l.map f)) (.int a) Q n := by
  unfold xIx; exact ⟨f v, atI_nat (by rw [List.getElem?_map, h]; rfl), q⟩
theorem get_getD {l : List Nat} (h : a < l.length) : l[a]? = some (l.getD a 0) := by
  rw [List.getD_eq_getElem?_getD, List.getElem?_eq_getElem h]; rfl
theorem r_ix_ln {l : List Nat} (h : a < l.length) (q : Q (.int (l.getD a 0 : Nat)) n) : xIx (.lst (nl l)) (.int a) Q n := r_ix_lm (f := fun (b : Nat) => PV.int (b : Int)) (get_getD h) q
theorem r_ix_tn {l : List Nat} (h : a < l.length) (q : Q (.int (l.getD a 0 : Nat)) n) : xIx (.tup (nl l)) (.int a) Q n := r_ix_tm (f := fun (b : Nat) => PV.int (b : Int)) (get_getD h) q
theorem r_ix_l {v : PV} (h : xs[a]? = some v) (q : Q v n) : xIx (.lst xs) (.int a) Q n := by unfold xIx; exact ⟨v, atI_nat h, q⟩
theorem r_ix_t {v : PV} (h : xs[a]? = some v) (q : Q v n) : xIx (.tup xs) (.int a) Q n := by unfold xIx; exact ⟨v, atI_nat h, q⟩
theorem r_max_nn (q : Q (.int (max a b : Nat)) n) : xMax (.int a) (.int b) Q n := by
  unfold xMax; refine ⟨trivial, ?_⟩
  have e : (if (b : Int) > (a : Int) then (b : Int) else (a : Int)) = ((max a b : Nat) : Int) := by
    split <;> omega
  rw [← e] at q; exact q
theorem r_min_nn (q : Q (.int (min a b : Nat)) n) : xMin (.int a) (.int b) Q n := by
  unfold xMin; refine ⟨trivial, ?_⟩
  have e : (if (b : Int) < (a : Int) then (b : Int) else (a : Int)) = ((min a b : Nat) : Int) := by
    split <;> omega
  rw [← e] at q; exact q
theorem r_int_i (q : Q (.int i) n) : xInt (.int i) Q n := by unfold xInt; exact q
theorem r_int_b {b : Bool} (q : Q (.int (b.toNat : Nat)) n) : xInt (.bl b) Q n := by unfold xInt; cases b <;> exact q
theorem r_bool_n (q : Q (.bl (decide (a ≠ 0))) n) : xBool (.int a) Q n := by
  unfold xBool
  have e : ((a : Int) != 0) = decide (a ≠ 0) := by rw [in0]; by_cases c : a = 0 <;> simp [c]
  show Q (.bl ((a : Int) != 0)) n
  rw [e]; exact q
theorem r_bool_b {b : Bool} (q : Q (.bl b) n) : xBool (.bl b) Q n := by unfold xBool; exact q
theorem r_list_t (q : Q (.lst xs) n) : xList (.tup xs) Q n := by unfold xList; exact q
theorem r_list_l (q : Q (.lst xs) n) : xList (.lst xs) Q n := by unfold xList; exact q
theorem r_list_s (q : Q (.lst xs) n) : xList (.scr xs) Q n := by unfold xList; exact q
theorem r_tup_t (q : Q (.tup xs) n) : xTuple (.tup xs) Q n := by unfold xTuple; exact q
theorem r_tup_l (q : Q (.tup xs) n) : xTuple (.lst xs) Q n := by unfold xTuple; exact q
theorem ints_nl : ∀ l : List Nat, ints? (nl l) = some (l.map fun (b : Nat) => (b : Int))
  | [] => rfl
  | b :: l => by simp only [nl, List.map_cons, ints?]; rw [show ints? (l.map fun (b : Nat) => PV.int (b : Int)) = _ from ints_nl l]; rfl
theorem sum_cast : ∀ l : List Nat, (l.map fun (b : Nat) => (b : Int)).sum = ((l.sum : Nat) : Int)
  | [] => rfl
  | b :: l => by simp only [List.map_cons, List.sum_cons, sum_cast l]; omega
theorem r_sum_n {l : List Nat} (q : Q (.int (l.sum : Nat)) n) : xSum (.lst (nl l)) Q n := by
  unfold xSum; exact ⟨_, ints_nl l, by rw [sum_cast]; exact q⟩
theorem r_rev_m (q : Q (.lst (l.reverse.map f)) n) : xRev (.lst (l.map f)) Q n := by unfold xRev; rw [List.map_reverse] at q; exact q
theorem r_bits (q : Q (.int (bl a : Nat)) n) : xBits (.int a) Q n := by unfold xBits; exact ⟨a, rfl, by rw [ib]; exact q⟩
section
variable {B : Bool → Pd}
theorem r_tru_n (q : B (decide (a ≠ 0)) n) : xTru (.int a) B n := by
  unfold xTru
  have e : ((a : Int) != 0) = decide (a ≠ 0) := by rw [in0]; by_cases c : a = 0 <;> simp [c]
  show B ((a : Int) != 0) n
  rw [e]; exact q
theorem r_tru_b {b : Bool} (q : B b n) : xTru (.bl b) B n := by unfold xTru; exact q
theorem r_tru_non (q : B false n) : xTru .non B n := by unfold xTru; exact q
theorem r_tru_lm (q : B (decide (l ≠ [])) n) : xTru (.lst (l.map f)) B n := by
  unfold xTru
  have e : (!(l.map f).isEmpty) = decide (l ≠ []) := by cases l <;> simp
  show B (!(l.map f).isEmpty) n
  rw [e]; exact q
theorem r_tru_tm (q : B (decide (l ≠ [])) n) : xTru (.tup (l.map f)) B n := by
  unfold xTru
  have e : (!(l.map f).isEmpty) = decide (l ≠ []) := by cases l <;> simp
  show B (!(l.map f).isEmpty) n
  rw [e]; exact q
theorem r_tru_sm (q : B (decide (l ≠ [])) n) : xTru (.scr (l.map f)) B n := by
  unfold xTru
  have e : (!(l.map f).isEmpty) = decide (l ≠ []) := by cases l <;> simp
  show B (!(l.map f).isEmpty) n
  rw [e]; exact q
theorem r_tru_l (q : B (!xs.isEmpty) n) : xTru (.lst xs) B n := by unfold xTru; exact q
theorem r_tru_t (q : B (!xs.isEmpty) n) : xTru (.tup xs) B n := by unfold xTru; exact q
end
theorem cut_to {α : Type} {xs : List α} {k : Nat} : cutP xs none (some (k : Int)) = xs.take k := by
  unfold cutP
  rw [HT.sIx_none, HT.sIx_nat, List.drop_zero, Nat.sub_zero]
  by_cases c : k ≤ xs.length
  · rw [Nat.min_eq_left c]
  · rw [Nat.min_eq_right (by omega), List.take_length, List.take_of_length_le (by omega)]
theorem cut_from {α : Type} {xs : List α} {k : Nat} : cutP xs (some (k : Int)) none = xs.drop k := by
  unfold cutP
  rw [HT.sIx_none, HT.sIx_nat]
  by_cases c : k ≤ xs.length
  · rw [Nat.min_eq_left c, List.take_of_length_le (by rw [List.length_drop]; omega)]
  · rw [Nat.min_eq_right (by omega), List.drop_length, List.take_nil, List.drop_of_length_le (by omega)]
theorem cut_mid {α : Type} {xs : List α} {a b : Nat} : cutP xs (some (a : Int)) (some (b : Int)) = (xs.drop a).take (b - a) := by
  unfold cutP
  rw [HT.sIx_nat, HT.sIx_nat]
  by_cases c : a ≤ xs.length
  · rw [Nat.min_eq_left c]
    by_cases d : b ≤ xs.length
    · rw [Nat.min_eq_left d]
    · rw [Nat.min_eq_right (by omega), List.take_of_length_le (by rw [List.length_drop]; omega), List.take_of_length_le (by rw [List.length_drop]; omega)]
  · rw [Nat.min_eq_right (show xs.length ≤ a by omega), List.drop_length, List.take_nil, List.drop_of_length_le (by omega), List.take_nil]
theorem cut_map {α β : Type} {f : α → β} {l : List α} {lo hi : Option Int} : cutP (l.map f) lo hi = (cutP l lo hi).map f := by
  unfold cutP
  rw [List.length_map, List.map_take, List.map_drop]
theorem r_sl_lto (q : Q (.lst ((l.take k).map f)) n) : xSl (.lst (l.map f)) none (some (k : Int)) Q n := by unfold xSl; show Q (.lst (cutP _ _ _)) n; rw [cut_map, cut_to]; exact q
theorem r_sl_lfr (q : Q (.lst ((l.drop k).map f)) n) : xSl (.lst (l.map f)) (some (k : Int)) none Q n := by unfold xSl; show Q (.lst (cutP _ _ _)) n; rw [cut_map, cut_from]; exact q
theorem r_sl_lmi (q : Q (.lst (((l.drop a).take (b - a)).map f)) n) : xSl (.lst (l.map f)) (some (a : Int)) (some (b : Int)) Q n := by unfold xSl; show Q (.lst (cutP _ _ _)) n; rw [cut_map, cut_mid]; exact q
theorem r_sl_tto (q : Q (.tup ((l.take k).map f)) n) : xSl (.tup (l.map f)) none (some (k : Int)) Q n := by unfold xSl; show Q (.tup (cutP _ _ _)) n; rw [cut_map, cut_to]; exact q
theorem r_sl_tfr (q : Q (.tup ((l.drop k).map f)) n) : xSl (.tup (l.map f)) (some (k : Int)) none Q n := by unfold xSl; show Q (.tup (cutP _ _ _)) n; rw [cut_map, cut_from]; exact q
theorem r_sl_tmi (q : Q (.tup (((l.drop a).take (b - a)).map f)) n) : xSl (.tup (l.map f)) (some (a : Int)) (some (b : Int)) Q n := by unfold xSl; show Q (.tup (cutP _ _ _)) n; rw [cut_map, cut_mid]; exact q
theorem r_sl_Lto (q : Q (.lst (xs.take k)) n) : xSl (.lst xs) none (some (k : Int)) Q n := by unfold xSl; show Q (.lst (cutP _ _ _)) n; rw [cut_to]; exact q
theorem r_sl_Lfr (q : Q (.lst (xs.drop k)) n) : xSl (.lst xs) (some (k : Int)) none Q n := by unfold xSl; show Q (.lst (cutP _ _ _)) n; rw [cut_from]; exact q
theorem r_sl_Lmi (q : Q (.lst ((xs.drop a).take (b - a))) n) : xSl (.lst xs) (some (a : Int)) (some (b : Int)) Q n := by unfold xSl; show Q (.lst (cutP _ _ _)) n; rw [cut_mid]; exact q
theorem r_sl_Tto (q : Q (.tup (xs.take k)) n) : xSl (.tup xs) none (some (k : Int)) Q n := by unfold xSl; show Q (.tup (cutP _ _ _)) n; rw [cut_to]; exact q
theorem r_sl_Tfr (q : Q (.tup (xs.drop k)) n) : xSl (.tup xs) (some (k : Int)) none Q n := by unfold xSl; show Q (.tup (cutP _ _ _)) n; rw [cut_from]; exact q
end
section
variable {Q : List PV → Pd} {n : Ck} {a b k : Nat} {α β : Type} {f : α → PV} {f' : β → PV} {l : List α} {l' : List β} {xs ys : List PV} {x y p : PV}
theorem rng_nl {k : Nat} : rng 0 k = nl (List.range k) := by
  unfold rng
  exact List.map_congr_left fun i _ => by simp
theorem r_rng1 (h : k < 2 ^ 62) (q : Q (nl (List.range k)) n) : xRng1 [.int (k : Nat)] Q n := by
  unfold xRng1; exact ⟨k, rfl, ⟨by omega, by omega⟩, by rw [Int.toNat_natCast, rng_nl]; exact q⟩
theorem rng_nl2 {a b : Nat} (h : a ≤ b) : rng (a : Int) ((b : Int) - (a : Int)).toNat = nl (List.range' a (b - a)) := by
  unfold rng
  rw [show ((b : Int) - (a : Int)).toNat = b - a by omega, List.range'_eq_map_range]
  show _ = ((List.range (b - a)).map (a + ·)).map _
  rw [List.map_map]
  exact List.map_congr_left fun i _ => by simp
theorem r_rng2 (h : b < 2 ^ 62) (ha : a < 2 ^ 62) (q : Q (nl (List.range' a (b - a))) n) : xRng2 [.int (a : Nat), .int (b : Nat)] Q n := by
  unfold xRng2
  refine ⟨a, b, rfl, ⟨by omega, by omega, by omega, by omega⟩, ?_⟩
  by_cases c : a ≤ b
  · rw [rng_nl2 c]; exact q
  · rw [show ((b : Int) - (a : Int)).toNat = 0 by omega]
    rw [show b - a = 0 by omega] at q; exact q
theorem enum_map : enumP (l.map f) = l.zipIdx.map fun p => PV.tup [.int (p.2 : Nat), f p.1] := by
  unfold enumP
  rw [List.mapIdx_eq_zipIdx_map, List.zipIdx_map, List.map_map]
  rfl
theorem r_enum_m (q : Q (l.zipIdx.map fun p => PV.tup [.int (p.2 : Nat), f p.1]) n) : xEnum [.lst (l.map f)] Q n := by
  unfold xEnum; exact ⟨_, .inl rfl, by rw [enum_map]; exact q⟩
theorem zip_map2 : zipP (l.map f) (l'.map f') = (l.zip l').map fun p => PV.tup [f p.1, f' p.2] := by
  unfold zipP
  rw [List.zip_map, List.map_map]
  rfl
theorem r_zip_m (q : Q ((l.zip l').map fun p => PV.tup [f p.1, f' p.2]) n) : xZip [.lst (l.map f), .lst (l'.map f')] Q n := by
  unfold xZip; exact ⟨_, _, .inl rfl, by rw [zip_map2]; exact q⟩
theorem r_zip_t (q : Q ((l.zip l').map fun p => PV.tup [f p.1, f' p.2]) n) : xZip [.tup (l.map f), .tup (l'.map f')] Q n := by
  unfold xZip; exact ⟨_, _, .inr rfl, by rw [zip_map2]; exact q⟩
theorem r_app_n {l : List Nat} {v : Nat} (h : l.length ≤ 1000000) (q : Q (nl (l ++ [v])) n) : xApp (nl l) (.int v) Q n := by
  unfold xApp; exact ⟨by rw [List.length_map]; exact Nat.lt_of_le_of_lt h (by decide), by rw [show nl (l ++ [v]) = nl l ++ [PV.int v] from List.map_append] at q; exact q⟩
theorem r_app_l (h : xs.length ≤ 1000000) (q : Q (xs ++ [p]) n) : xApp xs p Q n := by unfold xApp; exact ⟨Nat.lt_of_le_of_lt h (by decide), q⟩
theorem r_put_m {v : α} (h : a < l.length) (e : p = f v) (q : Q ((l.set a v).map f) n) : xPut (l.map f) (.int (a : Nat)) p Q n := by
  subst e
  unfold xPut; exact ⟨a, a, rfl, by rw [List.length_map]; exact ixn_nat h, by rw [List.map_set] at q; exact q⟩
theorem r_put_n {l : List Nat} {v : Nat} (h : a < l.length) (q : Q (nl (l.set a v)) n) : xPut (nl l) (.int (a : Nat)) (.int v) Q n := r_put_m (f := fun (b : Nat) => PV.int (b : Int)) h rfl q
theorem r_nrep_n {v : Nat} (h : k ≤ 1000000) (q : Q (nl (List.replicate k v)) n) : xNRep (.lst [.int v]) (.int (k : Nat)) Q n := by
  unfold xNRep
  refine ⟨_, _, rfl, rfl, ⟨by omega, by omega, by rw [Int.toNat_natCast]; simp; exact Nat.le_trans h (by decide)⟩, ?_⟩
  rw [Int.toNat_natCast, rep_nl]; exact q
theorem r_ncat_m {l2 : List α} (h : l.length + l2.length ≤ 1000000) (q : Q ((l ++ l2).map f) n) : xNCat (.lst (l.map f)) (.lst (l2.map f)) Q n := by
  unfold xNCat; exact ⟨_, _, rfl, rfl, by rw [List.length_map, List.length_map]; exact Nat.le_trans h (by decide), by rw [List.map_append] at q; exact q⟩
theorem r_nlist_l (q : Q xs n) : xNList (.lst xs) Q n := by unfold xNList; exact ⟨_, .inr (.inl rfl), q⟩
theorem r_nlist_t (q : Q xs n) : xNList (.tup xs) Q n := by unfold xNList; exact ⟨_, .inl rfl, q⟩
theorem r_nlist_s (q : Q xs n) : xNList (.scr xs) Q n := by unfold xNList; exact ⟨_, .inr (.inr (.inl rfl)), q⟩
theorem r_nlist_b {k : Nat} {xs : List PV} {Q : List PV → Pd} {n : Ck} (h : n.isL k xs) (q : Q xs n) : xNList (.box k) Q n := by unfold xNList; exact ⟨_, .inr (.inr (.inr ⟨k, rfl, h⟩)), q⟩
end
section
variable {p : Prop} {dp : Decidable p} {A B : Pd} {A0 B0 : Prop} {n : Ck} {c : Bool}
theorem r_iT (h : p) (a : A n) : xIf (decide p) A B n := by rw [xIf_ite, if_pos (decide_eq_true h)]; exact a
theorem r_iF (h : ¬ p) (b : B n) : xIf (decide p) A B n := by rw [xIf_ite, if_neg (by simp [h])]; exact b
theorem r_if (a : p → A n) (b : ¬ p → B n) : xIf (decide p) A B n := by
  by_cases h : p
  · exact r_iT h (a h)
  · exact r_iF h (b h)
theorem r_nT (h : ¬ p) (a : A n) : xIf (!decide p) A B n := by rw [xIf_ite, if_pos (by simp [h])]; exact a
theorem r_nF (h : p) (b : B n) : xIf (!decide p) A B n := by rw [xIf_ite, if_neg (by simp [h])]; exact b
theorem r_nf (a : ¬ p → A n) (b : p → B n) : xIf (!decide p) A B n := by
  by_cases h : p
  · exact r_nF h (b h)
  · exact r_nT h (a h)
theorem r_bT (h : c = true) (a : A n) : xIf c A B n := by rw [xIf_ite, if_pos h]; exact a
theorem r_bF (h : c = false) (b : B n) : xIf c A B n := by rw [xIf_ite, if_neg (by simp [h])]; exact b
theorem sz1 {xs : List PV} (h : Nat.ble xs.length sizeLine = true) : xs.length ≤ sizeLine := Nat.le_of_ble_eq_true h
end
section
variable {α : Type} {f : α → PV} {l : List α} {g : DTg} {b : DSt} {D : DEnds} {ρ : Rho} {n : Ck} {c : DB} {tt : DB} {te : DT}
theorem map_some {i : Nat} {x : PV} (h : (l.map f)[i]? = some x) : ∃ a, l[i]? = some a ∧ x = f a := by
  rw [List.getElem?_map] at h
  cases e : l[i]? with
  | none => rw [e] at h; cases h
  | some a => rw [e] at h; exact ⟨a, rfl, (Option.some.inj h).symm⟩
theorem r_for {I : Nat → Rho → Pd} (h0 : I 0 ρ n)
    (step : ∀ (i : Nat) (a : α) (ρ : Rho) (n : Ck) (Nx : Rho → Pd), l[i]? = some a → I i ρ n → (∀ ρ' n', I (i + 1) ρ' n' → Nx ρ' n') → g (f a) ρ (fun ρ' => b (lp D Nx) ρ') n)
    (fin : ∀ ρ n, I l.length ρ n → D.nx ρ n) : dLoop g b D (l.map f) ρ n := by
  refine loop_list (l.map f) I h0 (fun i x ρ n Nx hx h q => ?_) (fun ρ n h => fin ρ n (by rw [List.length_map] at h; exact h))
  obtain ⟨a, ha, rfl⟩ := map_some hx
  exact step i a ρ n Nx ha h q
theorem r_forS (S : Nat → Slot → Rho) {s0 : Slot} (h0 : ρ = S 0 s0)
    (step : ∀ (i : Nat) (a : α) (s : Slot) (Nx : Rho → Pd), l[i]? = some a → (∀ s', Nx (S (i + 1) s') n) → g (f a) (S i s) (fun ρ' => b (lp D Nx) ρ') n)
    (fin : ∀ s, D.nx (S l.length s) n) : dLoop g b D (l.map f) ρ n := by
  refine r_for (I := fun i ρ m => m = n ∧ ∃ s, ρ = S i s) ⟨rfl, s0, h0⟩ ?_ ?_
  · rintro i a ρ m Nx ha ⟨rfl, s, rfl⟩ k
    exact step i a s Nx ha fun s' => k _ _ ⟨rfl, s', rfl⟩
  · rintro ρ m ⟨rfl, s, rfl⟩
    exact fin s
theorem r_while {γ : Type} (S : γ → Rho) (inv : γ → Prop) (m : γ → Nat) (a0 : γ) (h0 : ρ = S a0) (i0 : inv a0)
    (step : ∀ (a : γ) (Nx : Rho → Pd), inv a → (∀ a', m a' < m a → inv a' → Nx (S a') n) → c (S a) (fun k => xIf k (b (lp D Nx) (S a)) (D.nx (S a))) n) : dWhile c b D ρ n := by
  simp only [xIf_ite] at step
  refine ⟨fun k ρ n' => n' = n ∧ ∃ a, k = m a ∧ inv a ∧ ρ = S a, ⟨_, rfl, a0, rfl, i0, h0⟩, ?_⟩
  rintro k ρ n' ⟨rfl, a, rfl, ia, rfl⟩
  exact step a _ ia fun a' hm hi => ⟨m a', hm, rfl, a', rfl, hi, rfl⟩
theorem r_lcU {xs acc : List PV} {Q : List PV → Pd} (h : Nat.ble xs.length 1000 = true) (q : dLcL g tt te ρ xs acc Q n) : xLc g tt te ρ xs acc Q n := by
  unfold xLc; exact ⟨Nat.lt_of_le_of_lt (Nat.le_of_ble_eq_true h) (by decide), q⟩
theorem r_lcU1 {x : PV} {xs acc : List PV} {Q : List PV → Pd} (h : Nat.ble (x :: xs).length 1000 = true) (q : dLcL g tt te ρ (x :: xs) acc Q n) : xLc g tt te ρ (x :: xs) acc Q n := r_lcU h q
theorem r_lc {h : α → PV} {Q : List PV → Pd} (hl : l.length ≤ 1000000)
    (step : ∀ (i : Nat) (a : α) (k : PV → Pd) (z : Pd), l[i]? = some a → k (h a) n → g (f a) ρ (fun ρ2 => tt ρ2 fun b => xIf b (te ρ2 k) z) n)
    (fin : Q (l.map h) n) : xLc g tt te ρ (l.map f) [] Q n := by
  simp only [xIf_ite] at step
  unfold xLc
  refine ⟨by rw [List.length_map]; exact Nat.lt_of_le_of_lt hl (by decide), ?_⟩
  refine lcl_list (l.map f) (fun i acc m => m = n ∧ acc = (l.take i).map h) ⟨rfl, rfl⟩ ?_ ?_
  · rintro i x acc m Nx hx ⟨rfl, rfl⟩ k
    obtain ⟨a, ha, rfl⟩ := map_some hx
    refine step i a _ _ ha (k _ _ ⟨rfl, ?_⟩)
    rw [List.take_add_one, ha, List.map_append]; rfl
  · rintro acc m ⟨rfl, rfl⟩
    rw [List.length_map, List.take_length]; exact fin
theorem r_lcF {h : α → PV} {p : α → Bool} {Q : List PV → Pd} (hl : l.length ≤ 1000000)
    (step : ∀ (i : Nat) (a : α) (k : PV → Pd) (z : Pd), l[i]? = some a → (p a = true → k (h a) n) → (p a = false → z n) → g (f a) ρ (fun ρ2 => tt ρ2 fun b => xIf b (te ρ2 k) z) n)
    (fin : Q ((l.filter p).map h) n) : xLc g tt te ρ (l.map f) [] Q n := by
  simp only [xIf_ite] at step
  unfold xLc
  refine ⟨by rw [List.length_map]; exact Nat.lt_of_le_of_lt hl (by decide), ?_⟩
  refine lcl_list (l.map f) (fun i acc m => m = n ∧ acc = ((l.take i).filter p).map h) ⟨rfl, rfl⟩ ?_ ?_
  · rintro i x acc m Nx hx ⟨rfl, rfl⟩ k
    obtain ⟨a, ha, rfl⟩ := map_some hx
    refine step i a _ _ ha (fun e => k _ _ ⟨rfl, ?_⟩) (fun e => k _ _ ⟨rfl, ?_⟩)
    · rw [List.take_add_one, ha, List.filter_append, List.map_append]; simp [e]
    · rw [List.take_add_one, ha, List.filter_append]; simp [e]
  · rintro acc m ⟨rfl, rfl⟩
    rw [List.length_map, List.take_length]; exact fin
end
end DL
set_option maxRecDepth 100000
set_option maxHeartbeats 1000000
namespace DL
open PySem L2 GF
inductive GetAt : Rho → Nat → Slot → Prop
  | zero {a : Slot} {l : Rho} : GetAt (a :: l) 0 a
  | succ {a s : Slot} {l : Rho} {i : Nat} : GetAt l i s → GetAt (a :: l) (i + 1) s
theorem GetAt.eq {ρ : Rho} {i : Nat} {s : Slot} (h : GetAt ρ i s) : ρ[i]? = some s := by
  induction h with
  | zero => rfl
  | succ _ ih => rw [List.getElem?_cons_succ]; exact ih
section
variable {ρ : Rho} {Q : PV → Pd} {QB : Bool → Pd} {QA : List PV → Pd} {QR : Rho → Pd} {n : Ck} {D : DEnds} {t u : DSt} {c d : DB} {ta tb tc te : DT} {tA tr : DA} {ti : DIt} {tn : DN} {tl th : DO} {g g' : G2} {g1 : G1} {gn : GN} {gb : GB} {gt : DTg} {gs : DTgs} {b : DSt} {tt : DB} {x y p q : PV} {xs ys ps vs us : List PV} {i j k cl : Nat} {K : Rho → Pd} {X : PV → Pd} {Ex : PX → Pd} {Ds : DSp} {Di : DSi} {dps : List PV} {s : Slot} {bv : Bool}
theorem o_seq (h : t (wn D (u D)) ρ n) : zSeq t u D ρ n := h
theorem o_next (h : D.nx ρ n) : dNext D ρ n := h
theorem o_asg (h : te ρ (fun p => gt p ρ D.nx) n) : dAsg te gt D ρ n := h
theorem o_drop (h : te ρ (fun _ => D.nx ρ) n) : dDrop te D ρ n := h
theorem o_ret (h : te ρ D.rt n) : dRet te D ρ n := h
theorem o_retN (h : D.rt .non n) : dRetN D ρ n := h
theorem o_brk (h : D.bk ρ n) : dBrk D ρ n := h
theorem o_cnt (h : D.ct ρ n) : dCnt D ρ n := h
theorem o_if (h : c ρ (fun v => xIf v (t D ρ) (u D ρ)) n) : zIf c t u D ρ n := h
theorem o_and (h : c ρ (fun v => xIf v (d ρ QB) (QB false)) n) : zAnd c d ρ QB n := h
theorem o_or (h : c ρ (fun v => xIf v (QB true) (d ρ QB)) n) : zOr c d ρ QB n := h
theorem o_not (h : c ρ (fun v => QB (!v)) n) : dNot c ρ QB n := h
theorem o_ifE (h : c ρ (fun v => xIf v (ta ρ Q) (tb ρ Q)) n) : zIfE c ta tb ρ Q n := h
theorem o_andV (h : ta ρ (fun x => xTru x fun v => xIf v (tb ρ Q) (Q x)) n) : zAndV ta tb ρ Q n := h
theorem o_orV (h : ta ρ (fun x => xTru x fun v => xIf v (Q x) (tb ρ Q)) n) : zOrV ta tb ρ Q n := h
theorem o_notV (h : ta ρ (fun x => xTru x fun v => Q (.bl (!v))) n) : zNotV ta ρ Q n := h
def xBl (x : PV) (Q : Bool → Pd) : Pd := fun n => match x with
  | .bl v => Q v n
  | _ => False
theorem r_bl (h : QB bv n) : xBl (.bl bv) QB n := h
theorem o_tst (h : ta ρ (fun x => xBl x QB) n) : dTst ta ρ QB n := h
theorem o_chain (h : ta ρ (fun x => tb ρ fun y => g x y fun z => xBl z fun v => xIf v (tc ρ (fun z => g' y z Q)) (Q (.bl false))) n) : zChain g g' ta tb tc ρ Q n := h
theorem o_tru (h : ta ρ (fun x => gb x QB) n) : dTru gb ta ρ QB n := h
theorem o_bin (h : ta ρ (fun x => tb ρ fun y => g x y Q) n) : dBin g ta tb ρ Q n := h
theorem o_un (h : ta ρ (fun x => g1 x Q) n) : dUn g1 ta ρ Q n := h
theorem o_app (h : tA ρ (fun xs => gn xs Q) n) : dApp gn tA ρ Q n := h
theorem o_nil (h : QA [] n) : dNil ρ QA n := h
theorem o_cons (h : ta ρ (fun x => tr ρ fun xs => QA (x :: xs)) n) : dCons ta tr ρ QA n := h
def xSz (xs : List PV) (Z : Pd) : Pd := fun n => xs.length ≤ sizeLine ∧ Z n
theorem r_sz {Z : Pd} (h : Nat.ble xs.length sizeLine = true) (q : Z n) : xSz xs Z n := ⟨sz1 h, q⟩
theorem r_szm {α : Type} {f : α → PV} {l : List α} {Z : Pd} (h : l.length ≤ 1000000) (q : Z n) : xSz (l.map f) Z n := ⟨by rw [List.length_map]; exact Nat.le_trans h (by decide), q⟩
theorem o_tup (h : tA ρ (fun xs => xSz xs (Q (.tup xs))) n) : dTup tA ρ Q n := h
theorem o_lst (h : tA ρ (fun xs => xSz xs (Q (.lst xs))) n) : dLst tA ρ Q n := h
theorem o_nlst (h : tA ρ (fun xs => xSz xs (QA xs)) n) : nLst tA ρ QA n := h
theorem o_var (g : GetAt ρ i (.fz p)) (h : Q p n) : dVar i ρ Q n := by unfold dVar; rw [g.eq]; exact h
theorem o_c (h : Q p n) : dC p ρ Q n := h
theorem o_for (h : ti ρ (fun xs => dLoop gt b D xs ρ) n) : dFor ti gt b D ρ n := h
theorem o_loop0 (h : D.nx ρ n) : dLoop gt b D [] ρ n := h
theorem o_loop1 (h : gt x ρ (fun ρ' => b (lp D (dLoop gt b D xs)) ρ') n) : dLoop gt b D (x :: xs) ρ n := h
theorem o_nm (h : xSet ρ i (.fz p) QR n) : zNm i p ρ QR n := h
theorem o_aug (g0 : GetAt ρ i (.fz x)) (h : te ρ (fun y => g x y fun z => xSet ρ i (.fz z) D.nx) n) : zAug i te g D ρ n := by unfold zAug; rw [g0.eq]; exact h
def xTwo (ps : List PV) (F : PV → PV → Pd) : Pd := fun n => match ps with
  | [p, q] => F p q n
  | _ => False
theorem r_two {F : PV → PV → Pd} (h : F p q n) : xTwo [p, q] F n := h
theorem o_par (h : tA ρ (fun ps => xTwo ps fun p q => xSet ρ i (.fz p) fun ρ' => xSet ρ' j (.fz q) D.nx) n) : zPar i j tA D ρ n := h
theorem o_own (h : tn ρ (fun xs => xSet ρ i (.own xs) D.nx) n) : zOwn i tn D ρ n := h
theorem o_frz (g : GetAt ρ i (.own xs)) (h : xSet ρ i (.fz (.lst xs)) (t D) n) : zFrz i t D ρ n := by unfold zFrz; rw [g.eq]; exact h
theorem o_frz1 (g : GetAt ρ i (.fz p)) (h : t D ρ n) : zFrz i t D ρ n := by unfold zFrz; rw [g.eq]; exact h
theorem o_frz2 (g : GetAt ρ i .no) (h : t D ρ n) : zFrz i t D ρ n := by unfold zFrz; rw [g.eq]; exact h
theorem o_peek (g : GetAt ρ i (.own xs)) (h : xSet ρ i (.fz (.lst xs)) (fun ρ' => te ρ' (fun p m => p.scal = true ∧ m.v = n.v ∧ Q p m)) n) : zPeek i te ρ Q n := by unfold zPeek; rw [g.eq]; exact h
theorem o_peek1 (g : GetAt ρ i (.fz p)) (h : te ρ Q n) : zPeek i te ρ Q n := by unfold zPeek; rw [g.eq]; exact h
theorem o_peekB (g : GetAt ρ i (.own xs)) (h : xSet ρ i (.fz (.lst xs)) (fun ρ' => c ρ' (fun b m => m.v = n.v ∧ QB b m)) n) : zPeekB i c ρ QB n := by unfold zPeekB; rw [g.eq]; exact h
theorem o_peekB1 (g : GetAt ρ i (.fz p)) (h : c ρ QB n) : zPeekB i c ρ QB n := by unfold zPeekB; rw [g.eq]; exact h
theorem o_onOwn (g : GetAt ρ i (.own xs)) (h : QA xs n) : onOwn i ρ QA n := by unfold onOwn; rw [g.eq]; exact h
theorem o_zapp (h : onOwn i ρ (fun _ => te ρ fun p => onOwn i ρ fun xs => xApp xs p fun ys => xSet ρ i (.own ys) D.nx) n) : zApp i te D ρ n := h
theorem o_zput (h : onOwn i ρ (fun _ => ta ρ fun p => tb ρ fun k => onOwn i ρ fun xs => xPut xs k p fun ys => xSet ρ i (.own ys) D.nx) n) : zPut i ta tb D ρ n := h
theorem o_zixO (h : onOwn i ρ (fun xs => tb ρ fun k => xIx (.lst xs) k Q) n) : zIxO i tb ρ Q n := h
theorem o_rng1 (h : tA ρ (fun ps => xRng1 ps QA) n) : zRng1 tA ρ QA n := h
theorem o_rng2 (h : tA ρ (fun ps => xRng2 ps QA) n) : zRng2 tA ρ QA n := h
theorem o_enum (h : tA ρ (fun ps => xEnum ps QA) n) : zEnum tA ρ QA n := h
theorem o_zip (h : tA ρ (fun ps => xZip ps QA) n) : zZip tA ρ QA n := h
theorem o_rep (h : ta ρ (fun x => tb ρ fun y => xNRep x y QA) n) : zRep ta tb ρ QA n := h
theorem o_cat (h : ta ρ (fun x => tb ρ fun y => xNCat x y QA) n) : zCat ta tb ρ QA n := h
theorem o_list (h : ta ρ (fun x => xNList x QA) n) : zList ta ρ QA n := h
theorem o_lc {vs : List Nat} (h : ti ρ (fun xs => xWipe ρ vs fun ρ' => xLc gt tt te ρ' xs [] QA) n) : zLc ti gt tt te vs ρ QA n := h
theorem o_wipe0 (h : K ρ n) : xWipe ρ [] K n := h
theorem o_wipe1 {v : Nat} {vs : List Nat} (h : xWipe ρ vs (fun ρ' => xSet ρ' v .no K) n) : xWipe ρ (v :: vs) K n := h
theorem o_wipem {nm : Str} {v : Nat} {vs : List (Str × Nat)} (h : xWipe ρ (vs.map (·.2)) (fun ρ' => xSet ρ' v .no K) n) : xWipe ρ (((nm, v) :: vs).map (·.2)) K n := h
theorem o_wipem0 (h : K ρ n) : xWipe ρ (([] : List (Str × Nat)).map (·.2)) K n := h
theorem o_yes (h : QB true n) : dYes ρ QB n := h
theorem o_sl (h : te ρ (fun x => tl ρ fun l => th ρ fun u => xSl x l u Q) n) : zSl te tl th ρ Q n := h
def xI (x : PV) (F : Int → Pd) : Pd := fun n => match x with
  | .int i => F i n
  | _ => False
theorem r_i {v : Int} {F : Int → Pd} (h : F v n) : xI (.int v) F n := h
theorem o_nop {F : Option Int → Pd} (h : F none n) : dNoP ρ F n := h
theorem o_p {F : Option Int → Pd} (h : te ρ (fun x => xI x fun v => F (some v)) n) : dP te ρ F n := h
def xSq (x : PV) (F : List PV → Pd) : Pd := fun n => match x with
  | .lst xs => F xs n
  | .scr xs => F xs n
  | _ => False
def xTp (x : PV) (F : List PV → Pd) : Pd := fun n => match x with
  | .tup xs => F xs n
  | _ => False
theorem r_sq_l (h : QA xs n) : xSq (.lst xs) QA n := h
theorem r_sq_s (h : QA xs n) : xSq (.scr xs) QA n := h
theorem r_tp (h : QA xs n) : xTp (.tup xs) QA n := h
theorem o_seqI (h : te ρ (fun x => xSq x QA) n) : dSeqI te ρ QA n := h
theorem o_tupI (h : te ρ (fun x => xTp x QA) n) : dTupI te ρ QA n := h
theorem o_gtup (e : xs.length = k) (h : gs xs ρ QR n) : dGTup k gs (.tup xs) ρ QR n := ⟨e, h⟩
theorem o_glst (e : xs.length = k) (h : gs xs ρ QR n) : dGLst k gs (.lst xs) ρ QR n := ⟨e, h⟩
theorem o_gnil (h : QR ρ n) : dGNil [] ρ QR n := ⟨rfl, h⟩
theorem o_gcons (h : gt p ρ (fun ρ' => gs ps ρ' QR) n) : dGCons gt gs (p :: ps) ρ QR n := h
theorem o_call (h : tA ρ (fun ps => Ds ps Q Ex) n) : dCall Ds [] Ex tA ρ Q n := by unfold dCall; simp only [List.append_nil]; exact h
theorem o_make (h : tA ρ (fun ps => Di ps (fun fs => Q (.ins cl fs)) Ex) n) : dMake cl Di [] Ex tA ρ Q n := by unfold dMake; simp only [List.append_nil]; exact h
def xMeth (cl : Nat) (Ds : DSp) (Ex : PX → Pd) (tA : DA) (ρ : Rho) (x : PV) (Q : PV → Pd) : Pd := fun n => ∃ vs, isIns x n cl vs ∧ tA ρ (fun ps => Ds (x :: ps) Q Ex) n
theorem o_meth (h : ta ρ (fun x => xMeth cl Ds Ex tA ρ x Q) n) : dMeth cl Ds [] Ex ta tA ρ Q n := by
  unfold dMeth; simp only [List.append_nil]; exact h
theorem r_meth (h : tA ρ (fun ps => Ds (.ins cl vs :: ps) Q Ex) n) : xMeth cl Ds Ex tA ρ (.ins cl vs) Q n := ⟨vs, .inl rfl, h⟩
theorem r_methB (e : n.isI k cl vs) (h : tA ρ (fun ps => Ds (.box k :: ps) Q Ex) n) : xMeth cl Ds Ex tA ρ (.box k) Q n := ⟨vs, .inr ⟨k, rfl, e⟩, h⟩
def xProp (cl : Nat) (Ds : DSp) (x : PV) (Q : PV → Pd) : Pd := fun n => ∃ vs, isIns x n cl vs ∧ Ds [x] Q (fun _ _ => False) n
theorem o_prop (h : ta ρ (fun x => xProp cl Ds x Q) n) : dProp cl Ds ta ρ Q n := h
theorem r_propi (h : Ds [.ins cl vs] Q (fun _ _ => False) n) : xProp cl Ds (.ins cl vs) Q n := ⟨vs, .inl rfl, h⟩
theorem o_sm (h : tA ρ (fun ps => Ds ps Q Ex) n) : dSM Ds [] Ex tA ρ Q n := by unfold dSM; simp only [List.append_nil]; exact h
theorem r_n1 (h : g1 x Q n) : gN1 g1 [x] Q n := h
theorem r_n2 (h : g x y Q n) : gN2 g [x, y] Q n := h
theorem r_f {v : PV} (e : vs[k]? = some v) (h : Q v n) : gF cl k (.ins cl vs) Q n := ⟨vs, .inl rfl, v, e, h⟩
theorem r_fB {v : PV} {j : Nat} (e0 : n.isI j cl vs) (e : vs[k]? = some v) (h : Q v n) : gF cl k (.box j) Q n := ⟨vs, .inr ⟨j, rfl, e0⟩, v, e, h⟩
theorem r_own (h : Ds [.ins cl vs, .ins cl us] Q (fun _ _ => False) n) : gOwn cl Ds (.ins cl vs) (.ins cl us) Q n := ⟨vs, rfl, us, rfl, h⟩
theorem r_ownP (e : plainY y = true) (h : Ds [.ins cl vs, y] Q (fun _ _ => False) n) : gOwnP cl Ds (.ins cl vs) y Q n := ⟨vs, rfl, e, h⟩
def xB1 (F : Bool → Pd) : PV → Pd := fun p n => ∃ b, p = .bl b ∧ F b n
theorem r_b1 {F : Bool → Pd} (h : F bv n) : xB1 F (.bl bv) n := ⟨bv, rfl, h⟩
theorem r_ownNe (h : Ds [.ins cl vs, .ins cl us] (xB1 fun b => Q (.bl (!b))) (fun _ _ => False) n) : gOwnNe cl Ds (.ins cl vs) (.ins cl us) Q n := ⟨vs, rfl, us, rfl, h⟩
theorem r_truO (h : Ds [.ins cl vs] (xB1 QB) (fun _ _ => False) n) : gTruO cl Ds (.ins cl vs) QB n := ⟨vs, rfl, h⟩
theorem r_boolO (h : Ds [.ins cl vs] (xB1 fun b => Q (.bl b)) (fun _ _ => False) n) : gBoolO cl Ds (.ins cl vs) Q n := ⟨vs, rfl, h⟩
theorem r_isI {no : List Nat} (e : mIs cl no x = some bv) (h : Q (.bl bv) n) : gIs cl no x Q n := ⟨bv, e, h⟩
theorem o_self {a : Addr} {f : Str} {fn : Nat → List Str} {ok : Nat → Prop} {v : PV} (g : GetAt ρ i (.slf a cl vs)) (e0 : ok cl) (e1 : idx f (fn cl) = some k) (e2 : vs[k]? = some v) (h : Q v n) : dSelf i f fn ok ρ Q n := ⟨a, cl, vs, k, v, g.eq, e0, e1, e2, h⟩
def xSS (i : Nat) (f : Str) (fn : Nat → List Str) (ok : Nat → Prop) (ρ : Rho) (p : PV) (K : Rho → Pd) : Pd := fun n => ∃ a c vs, ρ[i]? = some (.slf a c vs) ∧ ok c ∧ (fn c)[vs.length]? = some f ∧ xSet ρ i (.slf a c (vs ++ [p])) K n
theorem o_ss {f : Str} {fn : Nat → List Str} {ok : Nat → Prop} (h : te ρ (fun p => xSS i f fn ok ρ p D.nx) n) : zSelfSet i f fn ok te D ρ n := h
theorem o_raise {f : Nat} (h : tA ρ (fun ps n => ps.length = k ∧ Ex ⟨f, ps⟩ n) n) : dRaise f k Ex tA D ρ n := h
theorem o_raise0 {f : Nat} (h : Ex ⟨f, []⟩ n) : dRaise0 f Ex D ρ n := h
theorem w_nx {K : Rho → Pd} (h : K ρ n) : (wn D K).nx ρ n := h
theorem w_rt {K : Rho → Pd} (h : D.rt x n) : (wn D K).rt x n := h
theorem w_bk {K : Rho → Pd} (h : D.bk ρ n) : (wn D K).bk ρ n := h
theorem w_ct {K : Rho → Pd} (h : D.ct ρ n) : (wn D K).ct ρ n := h
theorem l_nx {K : Rho → Pd} (h : K ρ n) : (lp D K).nx ρ n := h
theorem l_ct {K : Rho → Pd} (h : K ρ n) : (lp D K).ct ρ n := h
theorem l_bk {K : Rho → Pd} (h : D.nx ρ n) : (lp D K).bk ρ n := h
theorem l_rt {K : Rho → Pd} (h : D.rt x n) : (lp D K).rt x n := h
theorem m_nx {a b c : Rho → Pd} {r : PV → Pd} (h : a ρ n) : (DEnds.mk a r b c).nx ρ n := h
theorem m_rt {a b c : Rho → Pd} {r : PV → Pd} (h : r x n) : (DEnds.mk a r b c).rt x n := h
inductive SnocTo : List PV → PV → List PV → Prop
  | nil {y : PV} : SnocTo [] y [y]
  | cons {a y : PV} {l l' : List PV} : SnocTo l y l' → SnocTo (a :: l) y (a :: l')
theorem SnocTo.eq {l l' : List PV} {y : PV} (h : SnocTo l y l') : l ++ [y] = l' := by
  induction h with
  | nil => rfl
  | cons _ ih => rw [List.cons_append, ih]
def xSnoc (ys : List PV) (y : PV) (F : List PV → Pd) : Pd := F (ys ++ [y])
theorem r_snoc {zs : List PV} {F : List PV → Pd} (h : SnocTo ys y zs) (q : F zs n) : xSnoc ys y F n := by unfold xSnoc; rw [h.eq]; exact q
theorem o_make1 (h : tA ρ (fun ps => xSnoc ps p fun zs => Di zs (fun fs => Q (.ins cl fs)) Ex) n) : dMake cl Di [p] Ex tA ρ Q n := h
theorem o_call1 (h : tA ρ (fun ps => xSnoc ps p fun zs => Ds zs Q Ex) n) : dCall Ds [p] Ex tA ρ Q n := h
theorem r_ss {a : Addr} {f : Str} {fn : Nat → List Str} {ok : Nat → Prop} (g : GetAt ρ i (.slf a cl vs)) (e2 : SnocTo vs p us) (e0 : ok cl) (e1 : (fn cl)[vs.length]? = some f) (h : xSet ρ i (.slf a cl us) K n) : xSS i f fn ok ρ p K n := ⟨a, cl, vs, g.eq, e0, e1, by rw [e2.eq]; exact h⟩
theorem o_lc0 (h : QA ys n) : dLcL gt tt te ρ [] ys QA n := h
theorem o_lc1 (h : gt x ρ (fun ρ2 => tt ρ2 fun v => xIf v (te ρ2 fun y => xSnoc ys y fun zs => dLcL gt tt te ρ xs zs QA) (dLcL gt tt te ρ xs ys QA)) n) : dLcL gt tt te ρ (x :: xs) ys QA n := by
  simp only [xIf_ite] at h; exact h
end
section
variable {ρ : Rho} {Q : PV → Pd} {n : Ck} {D : DEnds} {i c k len : Nat} {a : Addr} {cls : Value} {d : Option Addr} {x : PX} {v : PV} {m : Nat → Option Bool} {bv : Bool} {ts : Addr → Value → Option Addr → DSt} {r : List DCl} {Ex0 : PX → Pd} {tb : (PX → Pd) → DSt} {l : List DCl}
theorem o_xf (g : GetAt ρ i (.exc a cls d x)) (e : x.c = c) (e2 : x.vs[k]? = some v) (h : Q v n) : dXf a cls d i c k ρ Q n := ⟨x, g.eq, e, v, e2, h⟩
theorem o_isX (g : GetAt ρ i (.exc a cls d x)) (e : m x.c = some bv) (h : Q (.bl bv) n) : dIsX a cls d i m ρ Q n := ⟨x, g.eq, bv, e, h⟩
theorem e_nx (h : xSet ρ i .no D.nx n) : (endsD D (some i)).nx ρ n := by unfold xSet at h; exact h
theorem e_bk (h : xSet ρ i .no D.bk n) : (endsD D (some i)).bk ρ n := by unfold xSet at h; exact h
theorem e_ct (h : xSet ρ i .no D.ct n) : (endsD D (some i)).ct ρ n := by unfold xSet at h; exact h
theorem e_rt {v : PV} (h : D.rt v n) : (endsD D (some i)).rt v n := h
theorem e_nx0 (h : D.nx ρ n) : (endsD D none).nx ρ n := h
theorem e_rt0 {v : PV} (h : D.rt v n) : (endsD D none).rt v n := h
end
theorem r_fin {fn : Nat → List Str} {x : Addr} {c : Nat} {fs : List PV} {l : Rho} {QF : List PV → Pd} {n : Ck} (e : fs.length = (fn c).length) (h : QF fs n) : ∃ fs', (Slot.slf x c fs :: l)[0]? = some (.slf x c fs') ∧ fs'.length = (fn c).length ∧ QF fs' n := ⟨fs, rfl, e, h⟩
end DL
set_option maxRecDepth 100000
set_option maxHeartbeats 1000000
namespace DL
open PySem L2 GF
def rngC (lo c : Int) (n : Nat) : List PV := (List.range n).map fun i => .int (lo + (i : Nat) * c)
section
variable {Z : Cz} {X : Cx} {P : Par} {K : PySem.W.Frag} {a b c : Expr} {pos p : Pos} {W : Wd}
theorem rngC_length (lo c : Int) (n : Nat) : (rngC lo c n).length = n := by unfold rngC; rw [List.length_map, List.length_range]
theorem rngC_get {lo c : Int} {n i : Nat} (h : i < n) : (rngC lo c n)[i]? = some (.int (lo + (i : Nat) * c)) := by
  unfold rngC; rw [List.getElem?_map, List.getElem?_range h]; rfl
theorem itok_rangeC {lo c : Int} {n : Nat} : ItOk P K W (Itc lo c n) (rngC lo c n) := by
  refine ⟨fun _ => True, YFn fun i => .int (lo + (i : Nat) * c), by rw [rngC_length]; exact walk_rangeC, fun _ _ _ _ => trivial, fun i x H1 H2 W' lw s b hi y => ?_⟩
  obtain ⟨rfl, rfl⟩ := y
  rw [rngC_length] at hi
  exact ⟨W', _, rngC_get hi, Fr0.refl s b, rfl, rep_int.2 rfl⟩
def xRng3 (ps : List PV) (Q : List PV → Pd) : Pd := fun t => ∃ (i j c : Int) (n : Nat), ps = [.int i, .int j, .int c] ∧ RgC i j c n ∧ Q (rngC i c n) t
def zRng3 (ta : DA) : DIt := fun ρ Q => ta ρ fun ps => xRng3 ps Q
theorem RepL.three {x y z : PV} {vs : List V} (r : RepL P K W [x, y, z] vs) : ∃ u v w, vs = [u, v, w] ∧ Rep P K W x u ∧ Rep P K W y v ∧ Rep P K W z w := by
  simp only [RepL] at r
  obtain ⟨u, _, rfl, r1, v, _, rfl, r2, w, _, rfl, r3, rfl⟩ := r
  exact ⟨u, v, w, rfl, r1, r2, r3⟩
theorem di_range3 {ta : DA} {tg : Expr} (hm : X.mg "range" = none) (ha : DAs Z X [a, b, c] ta) (hg : Gl X "range" := by rfl)
    (hs : starEach [a, b, c] X.env = (false, eval a X.env) :: starEach [b, c] X.env := by rfl) (hpl : (backTo pos (starEach [b, c] X.env)).any (·.1) = false := by rfl) :
    DI Z X tg (.Call (.Name "range" p) [a, b, c] [] pos) (zRng3 ta) := by
  refine ⟨fun ρ Q Q' n hq q => ha.mono ρ _ _ n (fun ps n q => ?_) q, PI.weak (pi_range3 hg hm ha.run hs hpl) fun σ H R q => ?_⟩
  · obtain ⟨i, j, c, m, e, g, q⟩ := q
    exact ⟨i, j, c, m, e, g, hq _ _ q⟩
  · obtain ⟨W, ρ, S, q⟩ := q
    refine ⟨W, ρ, S, ha.mono ρ _ _ _ (fun ps n q vs W1 H1 f1 c1 r1 => ?_) q⟩
    obtain ⟨i, j, c, m, rfl, g, q⟩ := q
    obtain ⟨u, v, w, rfl, r, r', r2⟩ := RepL.three r1
    rw [rep_int] at r r' r2
    subst r; subst r'; subst r2
    exact ⟨i, j, c, m, rfl, g, q _ W1 H1 f1 c1 itok_rangeC⟩
end
section
variable {Q : List PV → Pd} {n : Ck} {k : Nat} {ρ : Rho} {tA : DA} {QA : List PV → Pd}
theorem o_rng3 (h : tA ρ (fun ps => xRng3 ps QA) n) : zRng3 tA ρ QA n := h
theorem rngC_down {k : Nat} : rngC ((k : Int) - 1) (-1) k = nl (List.range k).reverse := by
  unfold rngC nl
  apply List.ext_getElem?
  intro i
  rw [List.getElem?_map, List.getElem?_map]
  by_cases h : i < k
  · rw [List.getElem?_range h, List.getElem?_reverse (by rw [List.length_range]; exact h), List.length_range, List.getElem?_range (by omega)]
    simp only [Option.map_some, Option.some.injEq, PV.int.injEq]
    omega
  · rw [List.getElem?_eq_none (by rw [List.length_range]; omega), List.getElem?_eq_none (by rw [List.length_reverse, List.length_range]; omega)]; rfl
theorem r_rngd (hk : k < 2 ^ 61) (q : Q (nl (List.range k).reverse) n) : xRng3 [.int ((k : Int) - ((1 : Nat) : Int)), .int (-((1 : Nat) : Int)), .int (-((1 : Nat) : Int))] Q n := by
  refine ⟨_, _, _, k, rfl, ?_, ?_⟩
  · have := RgC.neg (i := (k : Int) - 1) (j := -1) (by omega) (by omega) (by omega) (by omega)
    rw [show ((k : Int) - 1 - -1).toNat = k by omega] at this
    exact this
  · rw [show (rngC ((k : Int) - ((1 : Nat) : Int)) (-((1 : Nat) : Int)) k) = rngC ((k : Int) - 1) (-1) k from rfl, rngC_down]; exact q
theorem r_rngd1 (hk : k < 2 ^ 60) (q : Q (nl (List.range (k + 1)).reverse) n) : xRng3 [.int (k : Int), .int (-((1 : Nat) : Int)), .int (-((1 : Nat) : Int))] Q n := by
  have := r_rngd (k := k + 1) (Q := Q) (n := n) (by omega) q
  rw [show (((k + 1 : Nat) : Int) - ((1 : Nat) : Int)) = (k : Int) by omega] at this
  exact this
end
end DL
set_option maxRecDepth 100000
set_option maxHeartbeats 1000000
namespace DL
open PySem L2 GF
def gOwnX (c : Nat) (D : DSp) (Ex : PX → Pd) : G2 := fun x y Q n => ∃ vs, x = .ins c vs ∧ ∃ us, y = .ins c us ∧ D [x, y] Q Ex n
section
variable {Z : Cz} {X : Cx} {a b : Expr} {pos : Pos} {ta tb : DT} {Ex : PX → Pd} {k c : Nat} {f : Addr} {fd : FuncData} {ps : List Str} {D : DSp}
theorem r_ownX {cl : Nat} {n : Ck} {vs us : List PV} {Q : PV → Pd} (h : D [.ins cl vs, .ins cl us] Q Ex n) : gOwnX cl D Ex (.ins cl vs) (.ins cl us) Q n := ⟨vs, rfl, us, rfl, h⟩
end
end DL
set_option maxRecDepth 100000
set_option maxHeartbeats 1000000
namespace DL
open PySem L2
section
variable {Z : Cz} {X : Cx} {e : Expr} {te : DT} {pos p p2 : Pos}
def gIsTup : G1 := fun x Q n => ∃ xs, x = .tup xs ∧ Q (.bl true) n
theorem r_isTup {xs : List PV} {Q : PV → Pd} {n : Ck} (h : Q (.bl true) n) : gIsTup (.tup xs) Q n := ⟨xs, rfl, h⟩
end
end DL
set_option maxRecDepth 100000
namespace GF
structure Po where
  n : Nat
deriving DecidableEq
namespace Po
instance : Add Po := ⟨fun a b => ⟨a.n ^^^ b.n⟩⟩
instance : Mul Po := ⟨fun a b => ⟨cm a.n b.n⟩⟩
instance : Neg Po := ⟨fun a => a⟩
instance : Sub Po := ⟨fun a b => ⟨a.n ^^^ b.n⟩⟩
instance (k : Nat) : OfNat Po k := ⟨⟨k % 2⟩⟩
instance : NatCast Po := ⟨fun k => ⟨k % 2⟩⟩
instance : IntCast Po := ⟨fun k => ⟨k.natAbs % 2⟩⟩
def pw (a : Po) : Nat → Po
  | 0 => ⟨1⟩
  | n + 1 => pw a n * a
instance : HPow Po Nat Po := ⟨pw⟩
instance : SMul Nat Po := ⟨fun k a => ⟨k % 2⟩ * a⟩
instance : SMul Int Po := ⟨fun k a => ⟨k.natAbs % 2⟩ * a⟩
theorem ext' {a b : Po} (h : a.n = b.n) : a = b := by cases a; cases b; cases h; rfl
theorem nat_parity (k : Nat) : (⟨(k + 1) % 2⟩ : Po) = ⟨k % 2⟩ + ⟨1⟩ := by
  apply ext'
  show (k + 1) % 2 = (k % 2) ^^^ 1
  rcases Nat.mod_two_eq_zero_or_one k with h | h
  · rw [h, show (k + 1) % 2 = 1 by omega]; rfl
  · rw [h, show (k + 1) % 2 = 0 by omega]; rfl
instance : Lean.Grind.CommRing Po where
  add_zero a := ext' (Nat.xor_zero a.n)
  add_comm a b := ext' (Nat.xor_comm a.n b.n)
  add_assoc a b c := ext' (Nat.xor_assoc a.n b.n c.n)
  mul_assoc a b c := ext' (cm_assoc a.n b.n c.n)
  mul_one a := ext' (cm_one a.n)
  one_mul a := ext' (cm_one_l a.n)
  left_distrib a b c := ext' (cm_xor a.n b.n c.n)
  right_distrib a b c := ext' (cm_xor_l a.n b.n c.n)
  zero_mul a := ext' (cm_zero_l a.n)
  mul_zero a := ext' (cm_zero a.n)
  pow_zero a := rfl
  pow_succ a n := rfl
  ofNat_succ k := nat_parity k
  ofNat_eq_natCast k := rfl
  nsmul_eq_natCast_mul k a := rfl
  neg_add_cancel a := ext' (Nat.xor_self a.n)
  sub_eq_add_neg a b := rfl
  neg_zsmul i a := by
    show (⟨(-i).natAbs % 2⟩ : Po) * a = ⟨i.natAbs % 2⟩ * a
    rw [Int.natAbs_neg]
  zsmul_natCast_eq_nsmul k a := rfl
  intCast_ofNat k := rfl
  intCast_neg i := by
    show (⟨(-i).natAbs % 2⟩ : Po) = ⟨i.natAbs % 2⟩
    rw [Int.natAbs_neg]
  mul_comm a b := ext' (cm_comm a.n b.n)
instance : Lean.Grind.IsCharP Po 2 where
  ofNat_ext_iff := by
    intro x y
    constructor
    · intro h
      have : (⟨x % 2⟩ : Po) = ⟨y % 2⟩ := h
      exact congrArg Po.n this
    · intro h
      show (⟨x % 2⟩ : Po) = ⟨y % 2⟩
      rw [h]
theorem mk_xor (a b : Nat) : (⟨a ^^^ b⟩ : Po) = ⟨a⟩ + ⟨b⟩ := rfl
theorem mk_cm (a b : Nat) : (⟨cm a b⟩ : Po) = ⟨a⟩ * ⟨b⟩ := rfl
theorem mk_zero : (⟨0⟩ : Po) = 0 := rfl
theorem mk_one : (⟨1⟩ : Po) = 1 := rfl
theorem of {a b : Nat} (h : (⟨a⟩ : Po) = ⟨b⟩) : a = b := congrArg Po.n h
theorem to {a b : Nat} (h : a = b) : (⟨a⟩ : Po) = ⟨b⟩ := h ▸ rfl
end Po
example (a b c : Po) : (a + b) * (a + b) = a * a + b * b := by grind
theorem xor_zero_iff {a b : Nat} : a ^^^ b = 0 ↔ a = b := by
  constructor
  · intro h
    have := Po.to h
    simp only [Po.mk_xor, Po.mk_zero] at this
    exact Po.of (by grind)
  · rintro rfl; exact Nat.xor_self a
theorem div_ex {a b : Nat} (hb : b ≠ 0) : ∃ q r, a = cm q b ^^^ r ∧ bl r < bl b := by
  have key : ∀ (k q r : Nat), bl r ≤ k → a = cm q b ^^^ r → ∃ q r, a = cm q b ^^^ r ∧ bl r < bl b := by
    intro k
    induction k with
    | zero =>
      intro q r h e
      have := bl_pos hb
      exact ⟨q, r, e, by omega⟩
    | succ k ih =>
      intro q r h e
      by_cases c : bl r < bl b
      · exact ⟨q, r, e, c⟩
      · have := div_less hb (show bl b ≤ bl r by omega)
        exact ih _ _ (by omega) (div_step e (bl r - bl b))
  exact key (bl a) 0 a (Nat.le_refl _) (by rw [cm_zero_l, Nat.zero_xor])
noncomputable def qd (a b : Nat) : Nat := if h : b ≠ 0 then Classical.choose (div_ex (a := a) h) else 0
noncomputable def rm (a b : Nat) : Nat := if h : b ≠ 0 then Classical.choose (Classical.choose_spec (div_ex (a := a) h)) else 0
theorem qr_spec {a b : Nat} (h : b ≠ 0) : a = cm (qd a b) b ^^^ rm a b ∧ bl (rm a b) < bl b := by
  unfold qd rm
  rw [dif_pos h, dif_pos h]
  exact Classical.choose_spec (Classical.choose_spec (div_ex (a := a) h))
theorem qr_eq {a b q r : Nat} (h : b ≠ 0) (e : a = cm q b ^^^ r) (hr : bl r < bl b) : qd a b = q ∧ rm a b = r := by
  obtain ⟨e2, h2⟩ := qr_spec (a := a) h
  have e3 : cm q b = cm (qd a b) b ^^^ (rm a b ^^^ r) := by
    have a1 := Po.to e
    have a2 := Po.to e2
    apply Po.of
    simp only [Po.mk_xor, Po.mk_cm] at *
    grind
  obtain ⟨x, y⟩ := div_exact h e3 (Nat.lt_of_le_of_lt (bl_xor_le (rm a b) r (k := bl b - 1) (by omega) (by omega)) (by have := bl_pos h; omega))
  exact ⟨x, xor_zero_iff.1 y⟩
theorem rm_lt {a b : Nat} (h : b ≠ 0) : bl (rm a b) < bl b := (qr_spec h).2
theorem qr_id {a b : Nat} (h : b ≠ 0) : cm (qd a b) b ^^^ rm a b = a := (qr_spec h).1.symm
theorem rm_small {a b : Nat} (h : bl a < bl b) : rm a b = a ∧ qd a b = 0 := by
  have hb : b ≠ 0 := fun z => by subst z; rw [bl_zero] at h; omega
  have := qr_eq (a := a) (q := 0) (r := a) hb (by rw [cm_zero_l, Nat.zero_xor]) h
  exact ⟨this.2, this.1⟩
theorem rm_xor {a b m : Nat} (h : m ≠ 0) : rm (a ^^^ b) m = rm a m ^^^ rm b m := by
  refine (qr_eq (q := qd a m ^^^ qd b m) h ?_ ?_).2
  · have a1 := Po.to (qr_id (a := a) h)
    have a2 := Po.to (qr_id (a := b) h)
    apply Po.of
    simp only [Po.mk_xor, Po.mk_cm] at *
    grind
  · have := rm_lt (a := a) h
    have := rm_lt (a := b) h
    exact Nat.lt_of_le_of_lt (bl_xor_le _ _ (k := bl m - 1) (by omega) (by omega)) (by have := bl_pos h; omega)
theorem rm_mul {q m r : Nat} (h : m ≠ 0) : rm (cm q m ^^^ r) m = rm r m := by
  refine (qr_eq (q := q ^^^ qd r m) h ?_ (rm_lt h)).2
  have a2 := Po.to (qr_id (a := r) h)
  apply Po.of
  simp only [Po.mk_xor, Po.mk_cm] at *
  grind
theorem rm_eq_zero {a m : Nat} (h : m ≠ 0) : rm a m = 0 ↔ dvd m a := by
  constructor
  · intro e
    have := (qr_spec (a := a) h).1
    rw [e, Nat.xor_zero] at this
    exact ⟨_, this⟩
  · rintro ⟨q, rfl⟩
    have := rm_mul (q := q) (r := 0) h
    rw [Nat.xor_zero] at this
    rw [this]
    exact (rm_small (by rw [bl_zero]; exact bl_pos h)).1
theorem qd_mul {q m : Nat} (h : m ≠ 0) : qd (cm q m) m = q := (qr_eq (r := 0) h (by rw [Nat.xor_zero]) (by rw [bl_zero]; exact bl_pos h)).1
theorem rm_cm_l {a b m : Nat} (h : m ≠ 0) : rm (cm (rm a m) b) m = rm (cm a b) m := by
  have a1 := Po.to (qr_id (a := a) h)
  have e : cm a b = cm (cm (qd a m) b) m ^^^ cm (rm a m) b := by
    apply Po.of
    simp only [Po.mk_xor, Po.mk_cm] at *
    grind
  rw [e, rm_mul h]
theorem rm_cm {a b m : Nat} (h : m ≠ 0) : rm (cm (rm a m) (rm b m)) m = rm (cm a b) m := by
  rw [rm_cm_l h, cm_comm, rm_cm_l h, cm_comm]
theorem dvd_xor {g a b : Nat} (h : dvd g a) (h' : dvd g b) : dvd g (a ^^^ b) := by
  obtain ⟨x, rfl⟩ := h
  obtain ⟨y, rfl⟩ := h'
  exact ⟨x ^^^ y, by rw [cm_xor_l]⟩
theorem dvd_cm {g a : Nat} (c : Nat) (h : dvd g a) : dvd g (cm c a) := by
  obtain ⟨x, rfl⟩ := h
  exact ⟨cm c x, by rw [cm_assoc]⟩
theorem dvd_cm' {g a : Nat} (c : Nat) (h : dvd g a) : dvd g (cm a c) := by rw [cm_comm]; exact dvd_cm c h
theorem dvd_trans {a b c : Nat} (h : dvd a b) (h' : dvd b c) : dvd a c := by
  obtain ⟨x, rfl⟩ := h'
  exact dvd_cm x h
theorem dvd_zero_iff {a : Nat} : dvd 0 a ↔ a = 0 := ⟨fun ⟨x, e⟩ => by rw [e, cm_zero], fun h => h ▸ dvd_zero 0⟩
theorem dvd_bl {a b : Nat} (h : dvd a b) (hb : b ≠ 0) : bl a ≤ bl b := by
  obtain ⟨x, rfl⟩ := h
  have hx : x ≠ 0 := fun z => by subst z; rw [cm_zero_l] at hb; exact hb rfl
  have ha : a ≠ 0 := fun z => by subst z; rw [cm_zero] at hb; exact hb rfl
  have := bl_cm hx ha
  have := bl_pos hx
  omega
theorem bl_one {x : Nat} (h : bl x = 1) : x = 1 := by
  have h1 := lt_bl x
  rw [h] at h1
  have : x ≠ 0 := fun z => by subst z; simp [bl_zero] at h
  omega
theorem dvd_anti {a b : Nat} (h : dvd a b) (h' : dvd b a) : a = b := by
  by_cases ha : a = 0
  · subst ha; exact (dvd_zero_iff.1 h).symm
  · have hb : b ≠ 0 := fun z => by subst z; exact ha (dvd_zero_iff.1 h')
    have h1 := dvd_bl h hb
    have h2 := dvd_bl h' ha
    obtain ⟨x, rfl⟩ := h
    have hx : x ≠ 0 := fun z => by subst z; rw [cm_zero_l] at hb; exact hb rfl
    have := bl_cm hx ha
    have e := bl_one (show bl x = 1 by omega)
    rw [e, cm_one_l]
theorem dvd_one {a : Nat} (h : dvd a 1) : a = 1 := dvd_anti h ⟨a, by rw [cm_one]⟩
theorem one_dvd (a : Nat) : dvd 1 a := ⟨a, (cm_one a).symm⟩
theorem gc_ex (a b : Nat) : ∃ g s t, dvd g a ∧ dvd g b ∧ g = cm s a ^^^ cm t b := by
  have key : ∀ (k a b : Nat), bl b ≤ k → ∃ g s t, dvd g a ∧ dvd g b ∧ g = cm s a ^^^ cm t b := by
    intro k
    induction k with
    | zero =>
      intro a b h
      have : b = 0 := bl_eq_zero.1 (by omega)
      subst this
      exact ⟨a, 1, 0, dvd_self a, dvd_zero a, by rw [cm_one_l, cm_zero_l, Nat.xor_zero]⟩
    | succ k ih =>
      intro a b h
      by_cases hb : b = 0
      · subst hb
        exact ⟨a, 1, 0, dvd_self a, dvd_zero a, by rw [cm_one_l, cm_zero_l, Nat.xor_zero]⟩
      · obtain ⟨g, s, t, h1, h2, e⟩ := ih b (rm a b) (by have := rm_lt (a := a) hb; omega)
        refine ⟨g, t, s ^^^ cm t (qd a b), dvd_back (qr_spec hb).1 h1 h2, h1, ?_⟩
        have a1 := Po.to (qr_id (a := a) hb)
        have a2 := Po.to e
        apply Po.of
        simp only [Po.mk_xor, Po.mk_cm] at *
        grind
  exact key (bl b) a b (Nat.le_refl _)
noncomputable def gc (a b : Nat) : Nat := Classical.choose (gc_ex a b)
theorem gc_spec (a b : Nat) : ∃ s t, dvd (gc a b) a ∧ dvd (gc a b) b ∧ gc a b = cm s a ^^^ cm t b := Classical.choose_spec (gc_ex a b)
theorem gc_l (a b : Nat) : dvd (gc a b) a := let ⟨_, _, h, _⟩ := gc_spec a b; h
theorem gc_r (a b : Nat) : dvd (gc a b) b := let ⟨_, _, _, h, _⟩ := gc_spec a b; h
theorem gc_max {a b d : Nat} (h : dvd d a) (h' : dvd d b) : dvd d (gc a b) := by
  obtain ⟨s, t, _, _, e⟩ := gc_spec a b
  rw [e]
  exact dvd_xor (dvd_cm s h) (dvd_cm t h')
theorem gc_eq {a b g : Nat} (h1 : dvd g a) (h2 : dvd g b) (h : ∀ d, dvd d a → dvd d b → dvd d g) : gc a b = g := dvd_anti (h _ (gc_l a b) (gc_r a b)) (gc_max h1 h2)
theorem gc_zero (a : Nat) : gc a 0 = a := gc_eq (dvd_self a) (dvd_zero a) fun d h _ => h
theorem gc_comm (a b : Nat) : gc a b = gc b a := gc_eq (gc_r b a) (gc_l b a) fun d h h' => gc_max h' h
theorem gc_step {a b : Nat} (hb : b ≠ 0) : gc b (rm a b) = gc a b := by
  refine gc_eq (gc_r a b) ?_ fun d h h' => gc_max (dvd_back (qr_spec hb).1 h h') h
  have e : rm a b = a ^^^ cm (qd a b) b := by
    have a1 := Po.to (qr_id (a := a) hb)
    apply Po.of
    simp only [Po.mk_xor, Po.mk_cm] at *
    grind
  rw [e]
  exact dvd_xor (gc_l a b) (dvd_cm _ (gc_r a b))
theorem gc_ne {a b : Nat} (h : a ≠ 0 ∨ b ≠ 0) : gc a b ≠ 0 := fun z => by
  have h1 := gc_l a b
  have h2 := gc_r a b
  rw [z, dvd_zero_iff] at h1 h2
  exact h.elim (fun x => x h1) fun x => x h2
theorem dvd_of_gc_one {a b c : Nat} (h : gc a b = 1) (d : dvd a (cm b c)) : dvd a c := by
  obtain ⟨s, t, _, _, e⟩ := gc_spec a b
  rw [h] at e
  have e2 : c = cm (cm s c) a ^^^ cm t (cm b c) := by
    have a1 := Po.to e
    apply Po.of
    simp only [Po.mk_xor, Po.mk_cm, Po.mk_one] at *
    grind
  rw [e2]
  exact dvd_xor ⟨_, rfl⟩ (dvd_cm t d)
end GF
set_option maxRecDepth 100000
namespace GF
open PySem L2 DL
section
variable {Q : PV → Pd} {n : Ck} {k m : Nat}
end
end GF
set_option maxRecDepth 100000
set_option maxHeartbeats 1000000
namespace DL
open PySem L2 GF
def Stop (p : Prop) : Prop := p
theorem Stop.go {p : Prop} (h : p) : Stop p := h
section
variable {ρ : Rho} {n : Ck} {D : DEnds} {g : DTg} {b : DSt} {xs : List PV} {p q r : PV} {α γ : Type} {f : α → PV} {l : List α}
theorem r_forG (S : Nat → γ → Rho) (s0 : γ) (h0 : ρ = S 0 s0)
    (step : ∀ (i : Nat) (a : α) (s : γ) (Nx : Rho → Pd), l[i]? = some a → (∀ s', Nx (S (i + 1) s') n) → g (f a) (S i s) (fun ρ' => b (lp D Nx) ρ') n)
    (fin : ∀ s, D.nx (S l.length s) n) : dLoop g b D (l.map f) ρ n := by
  refine r_for (I := fun i ρ m => m = n ∧ ∃ s, ρ = S i s) ⟨rfl, s0, h0⟩ ?_ ?_
  · rintro i a ρ m Nx ha ⟨rfl, s, rfl⟩ k
    exact step i a s Nx ha fun s' => k _ _ ⟨rfl, s', rfl⟩
  · rintro ρ m ⟨rfl, s, rfl⟩
    exact fin s
theorem r_forH (S : γ → Rho) (I : Nat → γ → Ck → Prop) (s0 : γ) (h0 : ρ = S s0) (i0 : I 0 s0 n)
    (step : ∀ (i : Nat) (a : α) (s : γ) (m : Ck) (Nx : Rho → Pd), l[i]? = some a → I i s m → (∀ s' m', I (i + 1) s' m' → Nx (S s') m') → g (f a) (S s) (fun ρ' => b (lp D Nx) ρ') m)
    (fin : ∀ s m, I l.length s m → D.nx (S s) m) : dLoop g b D (l.map f) ρ n := by
  refine r_for (I := fun i ρ m => ∃ s, ρ = S s ∧ I i s m) ⟨s0, h0, i0⟩ ?_ ?_
  · rintro i a ρ m Nx ha ⟨s, rfl, hs⟩ k
    exact step i a s m Nx ha hs fun s' m' h' => k _ _ ⟨s', rfl, h'⟩
  · rintro ρ m ⟨s, rfl, hs⟩
    exact fin s m hs
end
end DL
namespace DL
open PySem L2 GF
theorem r_rng3neg {i : Int} {Q : List PV → Pd} {n : Ck} (h : i < 0 ∧ -(2 ^ 62) ≤ i) (q : Q [] n) : xRng3 [.int i, .int (-((1 : Nat) : Int)), .int (-((1 : Nat) : Int))] Q n := by
  refine ⟨_, _, _, 0, rfl, ?_, q⟩
  have := RgC.neg (i := i) (j := -1) h.2 (by omega) (by omega) (by omega)
  rw [show (i - -1).toNat = 0 by omega] at this
  exact this
end DL
namespace DL
open PySem L2 GF
section
variable {A B : Pd} {n : Ck} {p : Prop} [Decidable p] {c : Bool} {i j : Int}
structure Hold (R : Prop) : Prop where
  go : R
theorem r_max_ii {Q : PV → Pd} (q : Q (.int (max i j)) n) : xMax (.int i) (.int j) Q n := by
  unfold xMax; refine ⟨trivial, ?_⟩
  have e : (if j > i then j else i) = max i j := by split <;> omega
  rw [← e] at q; exact q
theorem r_min_ii {Q : PV → Pd} (q : Q (.int (min i j)) n) : xMin (.int i) (.int j) Q n := by
  unfold xMin; refine ⟨trivial, ?_⟩
  have e : (if j < i then j else i) = min i j := by split <;> omega
  rw [← e] at q; exact q
end
end DL
set_option maxRecDepth 100000
set_option maxHeartbeats 1000000
namespace DL
open PySem L2 GF
@[irreducible] def xInN (neg : Bool) : G2 := fun x y Q n => ∃ (i : Int) (ys : List Int), x = .int i ∧ (y = .tup (ys.map .int) ∨ y = .lst (ys.map .int)) ∧ Q (.bl (if neg then !(ys.any fun z => z == i) else ys.any fun z => z == i)) n
section
variable {Z : Cz} {X : Cx}
end
section
variable {Q : PV → Pd} {n : Ck} {a : Nat} {l : List Nat} {i : Int}
theorem any_cast (l : List Nat) (a : Nat) : (l.map fun z : Nat => (z : Int)).any (fun z => z == (a : Int)) = decide (a ∈ l) := by
  rw [List.any_map]
  by_cases h : a ∈ l
  · rw [decide_eq_true h, List.any_eq_true]
    exact ⟨a, h, by simp⟩
  · rw [decide_eq_false h, List.any_eq_false]
    intro b hb e
    have : (b : Int) = a := by simpa using e
    have : b = a := by omega
    exact h (this ▸ hb)
theorem nl_ints (l : List Nat) : nl l = (l.map fun z : Nat => (z : Int)).map PV.int := by unfold nl; rw [List.map_map]; rfl
theorem r_in_l (q : Q (.bl (decide (a ∈ l))) n) : xInN false (.int a) (.lst (nl l)) Q n := by
  unfold xInN; exact ⟨_, l.map fun z : Nat => (z : Int), rfl, .inr (by rw [nl_ints]), by rw [any_cast]; exact q⟩
theorem r_in_t (q : Q (.bl (decide (a ∈ l))) n) : xInN false (.int a) (.tup (nl l)) Q n := by
  unfold xInN; exact ⟨_, l.map fun z : Nat => (z : Int), rfl, .inl (by rw [nl_ints]), by rw [any_cast]; exact q⟩
theorem r_ni_l (q : Q (.bl (!decide (a ∈ l))) n) : xInN true (.int a) (.lst (nl l)) Q n := by
  unfold xInN; exact ⟨_, l.map fun z : Nat => (z : Int), rfl, .inr (by rw [nl_ints]), by rw [any_cast]; exact q⟩
theorem r_ni_t (q : Q (.bl (!decide (a ∈ l))) n) : xInN true (.int a) (.tup (nl l)) Q n := by
  unfold xInN; exact ⟨_, l.map fun z : Nat => (z : Int), rfl, .inl (by rw [nl_ints]), by rw [any_cast]; exact q⟩
theorem r_ni01 (q : Q (.bl (!decide (i = 0 ∨ i = 1))) n) : xInN true (.int i) (.tup [.int (0 : Nat), .int (1 : Nat)]) Q n := by
  unfold xInN
  refine ⟨i, [0, 1], rfl, .inl rfl, ?_⟩
  have e : ([0, 1] : List Int).any (fun z => z == i) = decide (i = 0 ∨ i = 1) := by
    by_cases h : i = 0
    · subst h; rfl
    · by_cases h1 : i = 1
      · subst h1; rfl
      · rw [decide_eq_false (by omega)]
        simp; omega
  rw [e]; exact q
end
end DL
namespace DL
open PySem L2 GF
def xLs (x : PV) (F : List PV → Pd) : Pd := fun n => ∃ xs, x = .lst xs ∧ F xs n
@[irreducible] def xIdx (xs : List PV) (y : PV) (Q : PV → Pd) : Pd := fun n => ∃ j z, y.okD 50 = true ∧ PV.okDs 50 xs = true ∧ xs[j]? = some z ∧ peq z y = true ∧ (∀ m z', m < j → xs[m]? = some z' → peq z' y = false) ∧ Q (.int (j : Nat)) n
section
variable {Q : PV → Pd} {n : Ck} {a j k : Nat} {l : List Nat} {ta te : DT} {ρ : Rho} {xs : List PV} {α : Type} {f : α → PV} {r : List α}
theorem o_index (h : ta ρ (fun x => xLs x fun xs => te ρ fun y => xIdx xs y Q) n) : dIndex ta te ρ Q n := by
  unfold xIdx at h; exact h
theorem r_ls {F : List PV → Pd} (h : F xs n) : xLs (.lst xs) F n := ⟨xs, rfl, h⟩
theorem r_sl_sto (q : Q (.lst ((r.take k).map f)) n) : xSl (.scr (r.map f)) none (some (k : Int)) Q n := by unfold xSl; show Q (.lst (cutP _ _ _)) n; rw [cut_map, cut_to]; exact q
theorem r_sl_sfr (q : Q (.lst ((r.drop k).map f)) n) : xSl (.scr (r.map f)) (some (k : Int)) none Q n := by unfold xSl; show Q (.lst (cutP _ _ _)) n; rw [cut_map, cut_from]; exact q
end
end DL
set_option maxRecDepth 100000
set_option maxHeartbeats 4000000
namespace DL
open PySem PySem.Spec PyProof.Rows L2
section
variable {X : Cx}
end
section
variable {Z : Cz} {X : Cx}
end
section
variable {Q : PV → Pd} {n : Ck} {α : Type} {l : List α} {f : α → PV} {k v : Nat}
end
end DL
namespace DL
open PySem L2
section
variable {Z : Cz} {X : Cx} {pos : Pos}
theorem de_gint {x : Str} {k : Nat} {t : Tok} (hm : X.mg x = some (.int (k : Int) t)) (hg : Gl X x := by rfl) (hd : (x == ("__debug__" : Str)) = false := by decide) : DE Z X (.Name x pos) (dC (.int (k : Nat))) :=
  ⟨fun _ _ _ _ hq h => hq _ _ h, PE.weak (pe_glob hg hm (v := .int (k : Int)) ⟨t, rfl⟩ hd) fun _ _ _ h => liftE_c (fun W => by simp only [Rep]) h⟩
end
end DL
set_option maxRecDepth 100000
set_option maxHeartbeats 4000000
namespace DL
open PySem PySem.Spec PyProof.Rows L2
section
variable {prog : Program} {w : World} {A : Around} {E : Value → Shared → Prop} {s : Shared} {l : Addr} {its : List Value} {ns : List Int} {Q : Value → Shared → Prop}
end
section
variable {X : Cx}
end
@[irreducible] def xSumT : G1 := fun x Q n => ∃ ns : List Int, x = .tup (ns.map .int) ∧ Q (.int ns.sum) n
section
variable {Z : Cz} {X : Cx}
end
section
variable {Q : PV → Pd} {n : Ck}
theorem sum_ci (l : List Nat) : (l.map fun b : Nat => (b : Int)).sum = ((l.sum : Nat) : Int) := by
  induction l with
  | nil => rfl
  | cons a l ih => rw [List.map_cons, List.sum_cons, ih, List.sum_cons]; omega
theorem r_sum_t {l : List Nat} (q : Q (.int (l.sum : Nat)) n) : xSumT (.tup (nl l)) Q n := by
  unfold xSumT
  exact ⟨l.map fun b : Nat => (b : Int), by rw [nl_ints], by rw [sum_ci]; exact q⟩
end
end DL
set_option maxRecDepth 100000
set_option maxHeartbeats 4000000
namespace DL
open PySem PySem.Spec PyProof.Rows L2
open AutoSeq1 (wpAny_loadPart')
section
variable {prog : Program} {w : World} {A : Around} {E : Value → Shared → Prop} {s : Shared}
end
@[irreducible] def xEnumT (ps : List PV) (Q : List PV → Pd) : Pd := fun t => ∃ xs, ps = [.tup xs] ∧ Q (enumP xs) t
def zEnumT (ta : DA) : DIt := fun ρ Q => ta ρ fun ps => xEnumT ps Q
section
variable {Z : Cz} {X : Cx} {e : Expr} {p pos : Pos}
end
section
variable {Q : List PV → Pd} {n : Ck} {ρ : Rho} {tA : DA} {α : Type} {l : List α} {f : α → PV}
theorem o_enumT (h : tA ρ (fun ps => xEnumT ps Q) n) : zEnumT tA ρ Q n := h
theorem r_enum_t (q : Q (l.zipIdx.map fun p => PV.tup [.int (p.2 : Nat), f p.1]) n) : xEnumT [.tup (l.map f)] Q n := by
  unfold xEnumT; exact ⟨_, rfl, by rw [enum_map]; exact q⟩
end
end DL
set_option maxRecDepth 100000
set_option maxHeartbeats 1000000
namespace DL
open PySem L2 GF
section
variable {ρ : Rho} {n : Ck} {g : DTg} {tt : DB} {te : DT} {α : Type} {f : α → PV} {l : List α}
end
end DL
set_option maxRecDepth 100000
set_option maxHeartbeats 1000000
namespace DL
open PySem L2
section
variable {c : Ck} {k j i : Nat} {ob ob' : Ob} {xs : List PV} {cl : Nat}
theorem st_put : (c.put k ob).st j = if j = k then some ob else c.st j := rfl
theorem st_new : (c.new ob).st j = if j = c.nx + 10 then some ob else c.st j := rfl
theorem put_nx : (c.put k ob).nx = c.nx := rfl
theorem new_nx : (c.new ob).nx = c.nx + 1 := rfl
theorem tick_nx : (c.tick k).nx = c.nx := rfl
theorem isL_put {ys : List PV} (h : c.isL k ys) : (c.put k (.lst xs)).isL k xs := ⟨h.1, by rw [st_put, if_pos rfl]⟩
theorem isL_putN {ys : List PV} (h : j ≠ k) (q : c.isL j ys) : (c.put k ob).isL j ys := ⟨q.1, by rw [st_put, if_neg h]; exact q.2⟩
theorem isL_new : (c.new (.lst xs)).isL (c.nx + 10) xs := ⟨⟨by omega, by show c.nx + 10 < c.nx + 1 + 10; omega⟩, by rw [st_new, if_pos rfl]⟩
theorem isL_newN {ys : List PV} (q : c.isL j ys) : (c.new ob).isL j ys := ⟨⟨q.1.1, by show j < c.nx + 1 + 10; have := q.1.2; omega⟩, by rw [st_new, if_neg (by have := q.1.2; omega)]; exact q.2⟩
theorem isL_tick {ys : List PV} (q : c.isL j ys) : (c.tick i).isL j ys := q
theorem isI_put {vs us : List PV} {d : Nat} (h : c.isI k d us) : (c.put k (.ins cl vs)).isI k cl vs := ⟨h.1, by rw [st_put, if_pos rfl]⟩
theorem isI_putN {vs : List PV} (h : j ≠ k) (q : c.isI j cl vs) : (c.put k ob).isI j cl vs := ⟨q.1, by rw [st_put, if_neg h]; exact q.2⟩
theorem isI_new {vs : List PV} : (c.new (.ins cl vs)).isI (c.nx + 10) cl vs := ⟨⟨by omega, by show c.nx + 10 < c.nx + 1 + 10; omega⟩, by rw [st_new, if_pos rfl]⟩
theorem isI_newN {vs : List PV} (q : c.isI j cl vs) : (c.new ob).isI j cl vs := ⟨⟨q.1.1, by show j < c.nx + 1 + 10; have := q.1.2; omega⟩, by rw [st_new, if_neg (by have := q.1.2; omega)]; exact q.2⟩
theorem isI_tick {vs : List PV} (q : c.isI j cl vs) : (c.tick i).isI j cl vs := q
end
section
variable {Z : Cz} {X : Cx} {P : Par} {K : PySem.W.Frag} {W : Wd} {H : Hp} {e a b o : Expr} {es : List Expr} {st : Stmt} {rest body : List Stmt} {pos p apos cpos tpos p2 xp : Pos} {ta tb te ti to : DT} {tc : DB} {t u : DSt} {Ex : PX → Pd} {H0 : Hp} {W0 : Wd} {σ : L2.St} {ρ : Rho} {name : Str}
def xBL (x : PV) (F : Nat → Pd) : Pd := fun n => ∃ k xs, x = .box k ∧ n.isL k xs ∧ F k n
def xBApp (k : Nat) (p : PV) (Q : PV → Pd) : Pd := fun n => ∃ xs, n.isL k xs ∧ xs.length < sizeLine ∧ Q .non (n.put k (.lst (xs ++ [p])))
def dBApp (to te : DT) : DT := fun ρ Q => to ρ fun x => xBL x fun k => te ρ fun p => xBApp k p Q
theorem bl_mono {x : PV} {F F' : Nat → Pd} {n : Ck} (h : ∀ k n, F k n → F' k n) (q : xBL x F n) : xBL x F' n := let ⟨k, xs, e, l, q⟩ := q; ⟨k, xs, e, l, h _ _ q⟩
theorem bput {Q : VK} {W1 : Wd} {H1 : Hp} {a : Addr} {k : Nat} {zs : List PV} {ws : List V} {p : PV} {v : V} {H0 : Hp} {W0 : Wd} (f : Fr0 P K H0 W0 W1 H1) (hk : 10 ≤ k) (hb : W1.B a = some k) (l : RepL P K W1 zs ws) (r : Rep P K W1 p v)
    (q : ∀ v W' H', Fr0 P K H0 W0 W' H' → W'.c = W1.c.put k (.lst zs) → Rep P K W' p v → Q v H') : Q v (upd H1 a (.lst ws)) :=
  q v (W1.put k (.lst zs)) _ (f.trans (Fr0.put f.sub f.box hk hb ⟨ws, rfl, l⟩)) rfl (Rep.mono Wle.put _ _ r)
theorem de_bapp (ho : DE Z X o to) (he : DE Z X e te) (hbase : attributeBase o "append" X.env (eval o X.env) = eval o X.env := by rfl)
    (hfew : ((backTo cpos (starEach [e] X.env)).all (fun x => !x.1) && (backToKw cpos (keywordEach [] X.env)).all (fun x => x.1.isSome)
      && decide (([e] : List Expr).length + ([] : List Keyword).length + (if ([] : List Keyword).isEmpty then 0 else 1) < 30)) = true := by rfl)
    (hline : (apos.endLine == cpos.line) = true := by rfl) (hs : starEach [e] X.env = (false, eval e X.env) :: starEach [] X.env := by rfl) (hplain : (backTo cpos (starEach [] X.env)).any (·.1) = false := by rfl) :
    DE Z X (.Call (.Attribute o "append" apos) [e] [] cpos) (dBApp to te) := by
  have hA : DAs Z X [e] (dCons te dNil) := da_cons he da_nil hs
  refine ⟨fun ρ Q Q' n hq q => ho.mono ρ _ _ n (fun x n q => bl_mono (fun k n q => he.mono ρ _ _ n (fun p n q => let ⟨xs, l, z, q⟩ := q; ⟨xs, l, z, hq _ _ q⟩) q) q) q,
    PE.weak (pe_bm PySem.F.plainAttrs_list PySem.F.slot_list_append PySem.F.type_list_append mt_append ho.run hA.run hbase hfew hline hs hplain) fun σ H Q q => ?_⟩
  obtain ⟨W, ρ, S, q⟩ := q
  refine ⟨W, ρ, S, ho.mono ρ _ _ _ (fun x n q v W1 H1 f1 c1 r1 => ?_) q⟩
  subst c1
  obtain ⟨k, xs0, rfl, l0, q⟩ := q
  obtain ⟨a, ys0, rfl, hb, h1, _⟩ := box_lst f1.box r1 l0
  refine ⟨Or.inl ⟨rfl, ys0, SqL.of h1⟩, W1, ρ, S.step f1, he.mono ρ _ _ _ (fun p n q vs W2 H2 f2 c2 r2 => ?_) q⟩
  subst c2
  obtain ⟨v, rfl, r⟩ := r2.one
  obtain ⟨xs, l, z, q⟩ := q
  have r1' := Rep.mono f2.le _ _ r1
  obtain ⟨a', ys, e', hb', h2, rl⟩ := box_lst f2.box r1' l
  cases e'
  exact ⟨a, ys, v, rfl, rfl, h2, by rw [← rl.length]; exact z, bput (f1.trans f2) l.1.1 hb' (rl.append (RepL.cons r RepL.nil)) (rep_non.2 rfl) q⟩
def xBPop0 (k : Nat) (Q : PV → Pd) : Pd := fun n => ∃ xs p, n.isL k xs ∧ xs[xs.length - 1]? = some p ∧ Q p (n.put k (.lst xs.dropLast))
def dBPop0 (to : DT) : DT := fun ρ Q => to ρ fun x => xBL x fun k => xBPop0 k Q
theorem RepL.dropLast {xs : List PV} {vs : List V} (l : RepL P K W xs vs) : RepL P K W xs.dropLast vs.dropLast := by
  rw [List.dropLast_eq_take, List.dropLast_eq_take, l.length]
  exact l.take _
def xBPop (k : Nat) (i : PV) (Q : PV → Pd) : Pd := fun n => ∃ xs j m p, n.isL k xs ∧ i = .int j ∧ -(2 ^ 63) ≤ j ∧ j < 2 ^ 63 ∧ seqIndex? j xs.length = some m ∧ xs[m]? = some p ∧ Q p (n.put k (.lst (xs.eraseIdx m)))
def dBPop (to ti : DT) : DT := fun ρ Q => to ρ fun x => xBL x fun k => ti ρ fun i => xBPop k i Q
theorem RepL.eraseIdx {xs : List PV} {vs : List V} (m : Nat) (l : RepL P K W xs vs) : RepL P K W (xs.eraseIdx m) (vs.eraseIdx m) := by
  rw [List.eraseIdx_eq_take_drop_succ, List.eraseIdx_eq_take_drop_succ]
  exact (l.take _).append (l.drop _)
def xBIns (k : Nat) (i p : PV) (Q : PV → Pd) : Pd := fun n => ∃ xs j, n.isL k xs ∧ i = .int j ∧ xs.length < sizeLine ∧ 0 ≤ j ∧ j < 2 ^ 63 ∧ Q .non (n.put k (.lst (xs.take j.toNat ++ [p] ++ xs.drop j.toNat)))
def dBIns (to ti te : DT) : DT := fun ρ Q => to ρ fun x => xBL x fun k => ti ρ fun i => te ρ fun p => xBIns k i p Q
def xBExt (k : Nat) (y : PV) (Q : PV → Pd) : Pd := fun n => ∃ xs zs, n.isL k xs ∧ (y = .lst zs ∨ ∃ j, y = .box j ∧ n.isL j zs) ∧ xs.length + zs.length ≤ sizeLine ∧ Q .non (n.put k (.lst (xs ++ zs)))
def dBExt (to te : DT) : DT := fun ρ Q => to ρ fun x => xBL x fun k => te ρ fun p => xBExt k p Q
def xBPut (x i p : PV) (K : Pd) : Pd := fun n => ∃ k xs j m, x = .box k ∧ n.isL k xs ∧ i = .int j ∧ ixN xs.length j = some m ∧ K (n.put k (.lst (xs.set m p)))
def dBPut (te to ti : DT) : DSt := fun D ρ => te ρ fun p => to ρ fun x => ti ρ fun i => xBPut x i p (D.nx ρ)
def xBSet (c : Nat) (f : Str) (fn : Nat → List Str) (x p : PV) (K : Pd) : Pd := fun n => ∃ k vs, x = .box k ∧ n.isI k c vs ∧ ((∃ j, (fn c)[j]? = some f ∧ j < vs.length ∧ K (n.put k (.ins c (vs.set j p)))) ∨ ((fn c)[vs.length]? = some f ∧ K (n.put k (.ins c (vs ++ [p])))))
def dBSet (c : Nat) (f : Str) (fn : Nat → List Str) (te to : DT) : DSt := fun D ρ => te ρ fun p => to ρ fun x => xBSet c f fn x p (D.nx ρ)
def dBAug (c j : Nat) (f : Str) (fn : Nat → List Str) (g : G2) (to te : DT) : DSt := fun D ρ => to ρ fun x => gF c j x fun y => te ρ fun z => g y z fun p => xBSet c f fn x p (D.nx ρ)
def dBox (t : DN) : DT := fun ρ Q => t ρ fun xs n => Q (.box (n.nx + 10)) (n.new (.lst xs))
theorem DNw.box {t : DN} (h : DNw Z X e t) : DE Z X e (dBox t) := by
  refine ⟨fun ρ Q Q' n hq q => h.mono ρ _ _ n (fun xs n q => hq _ _ q) q, PE.weak h.run fun σ H Q q => ?_⟩
  obtain ⟨W, ρ, S, q⟩ := q
  refine ⟨W, ρ, S, h.mono ρ _ _ _ (fun xs n q a ys W1 H1 f cc n ha nF nB r => ?_) q⟩
  subst cc
  let W2 := W1.newB a (.lst xs) nB
  have le : Wle W1 W2 := Wle.newB
  refine q _ W2 H1 ⟨f.le.trans le, f.sub, f.keep, f.freshF, fun x j h => ?_, fun x j h => ?_, fun ev => ?_⟩ rfl (rep_box.2 ⟨a, rfl, newB_same⟩)
  · have h' : (if x = a then some (W1.c.nx + 10) else W1.B x) = some j := h
    by_cases c : x = a
    · subst c; exact .inr n
    · rw [if_neg c] at h'; exact f.freshB x j h'
  · have h' : (if x = a then some (W1.c.nx + 10) else W1.B x) = some j := h
    by_cases c : x = a
    · subst c
      rw [if_pos rfl] at h'; cases h'
      exact ⟨nF, _, ha, .inr ⟨by omega, .lst xs, by show (if W1.c.nx + 10 = W1.c.nx + 10 then some (Ob.lst xs) else _) = _; rw [if_pos rfl], ys, rfl, RepL.mono le _ _ r⟩⟩
    · rw [if_neg c] at h'
      obtain ⟨h1, o', h2, h3⟩ := f.box x j h'
      refine ⟨h1, o', h2, ?_⟩
      rcases h3 with ⟨g, h3⟩ | ⟨g, ob', e, h3⟩
      · exact .inl ⟨g, Z.P.bmono _ _ _ _ _ _ (fun x k h => le.b x k h) (Nat.le_refl _) h3⟩
      · have nj : j ≠ W1.c.nx + 10 := fun z => by have := W1.bd x j h'; omega
        exact .inr ⟨g, ob', by show (if j = W1.c.nx + 10 then some (Ob.lst xs) else W1.c.st j) = _; rw [if_neg nj]; exact e, h3.mono le⟩
  · exfalso
    have e : W1.c.v + 1 = W.c.v := ev
    have := f.le.c.2.2
    omega
end
end DL
set_option maxRecDepth 100000
set_option maxHeartbeats 1000000
namespace DL
open PySem L2
section
variable {Z : Cz} {X : Cx} {P : Par} {K : PySem.W.Frag} {W : Wd} {H : Hp} {e a b o : Expr} {es : List Expr} {st : Stmt} {rest body : List Stmt} {pos p apos cpos tpos p2 xp : Pos} {ta tb te ti to : DT} {tc : DB} {t u : DSt} {Ex : PX → Pd} {H0 : Hp} {W0 : Wd} {σ : L2.St} {ρ : Rho} {name : Str}
theorem walk_box {a : Addr} {n : Nat} : Walk (Itl K a) n (fun H => ∃ ys, H a = some (.lst ys) ∧ ys.length = n) (fun i H x H' => H' = H ∧ ∃ ys, H a = some (.lst ys) ∧ ys[i]? = some x) := by
  refine ⟨fun i H hi q => ?_, fun H q => ?_, fun i H x H' hi q y => ?_⟩
  · obtain ⟨ys, h, l⟩ := q
    exact ⟨ys, ys[i], SqL.of h, by simp [show i < ys.length by omega]⟩
  · obtain ⟨ys, h, l⟩ := q
    exact ⟨ys, SqL.of h, by omega⟩
  · obtain ⟨ys, h, l⟩ := q
    exact ⟨y.1, ys, h, y.2 ys (SqL.of h)⟩
def dLoopB (k : Nat) (all : List PV) (g : DTg) (b : DSt) (D : DEnds) : List PV → Rho → Pd
  | [], ρ => fun n => n.isL k all ∧ D.nx ρ n
  | x :: xs, ρ => fun n => n.isL k all ∧ g x ρ (fun ρ' => b { nx := dLoopB k all g b D xs, ct := dLoopB k all g b D xs, bk := D.nx, rt := D.rt } ρ') n
def xForB (g : DTg) (b : DSt) (D : DEnds) (ρ : Rho) (x : PV) : Pd := fun n => ∃ k xs, x = .box k ∧ n.isL k xs ∧ dLoopB k xs g b D xs ρ n
def dForB (te : DT) (g : DTg) (b : DSt) : DSt := fun D ρ => te ρ fun x => xForB g b D ρ x
def dLcLB (k : Nat) (all : List PV) (g : DTg) (tt : DB) (te : DT) (ρ : Rho) : List PV → List PV → (List PV → Pd) → Pd
  | [], acc, Q => fun n => n.isL k all ∧ Q acc n
  | x :: xs, acc, Q => fun n => n.isL k all ∧ g x ρ (fun ρ2 => tt ρ2 fun b => if b = true then te ρ2 fun y => dLcLB k all g tt te ρ xs (acc ++ [y]) Q else dLcLB k all g tt te ρ xs acc Q) n
theorem dLcLB_mono {k : Nat} {all : List PV} {g : DTg} {tt : DB} {te : DT} (hg : MonoG g) (ht : MonoT tt) (he : MonoT te) {ρ : Rho} {Q Q' : List PV → Pd} (hq : ∀ p n, Q p n → Q' p n) : ∀ (xs acc : List PV) (n : Ck), dLcLB k all g tt te ρ xs acc Q n → dLcLB k all g tt te ρ xs acc Q' n
  | [], acc, n, q => ⟨q.1, hq _ _ q.2⟩
  | x :: xs, acc, n, q => ⟨q.1, hg x ρ _ _ n (fun ρ2 n q => ht ρ2 _ _ n (fun b n q => by
      cases b with
      | true => rw [if_pos rfl] at q ⊢; exact he ρ2 _ _ n (fun y n q => dLcLB_mono hg ht he hq xs _ n q) q
      | false => rw [if_neg Bool.false_ne_true] at q ⊢; exact dLcLB_mono hg ht he hq xs _ n q) q) q.2⟩
theorem dLcLB_isL {k : Nat} {all : List PV} {g : DTg} {tt : DB} {te : DT} : ∀ {xs acc : List PV} {Q : List PV → Pd} {n : Ck}, dLcLB k all g tt te ρ xs acc Q n → n.isL k all
  | [], _, _, _, q => q.1
  | _ :: _, _, _, _, q => q.1
def xLcB (g : DTg) (tt : DB) (te : DT) (ρ : Rho) (x : PV) (Q : List PV → Pd) : Pd := fun n => ∃ k xs, x = .box k ∧ n.isL k xs ∧ xs.length < sizeLine ∧ dLcLB k xs g tt te ρ xs [] Q n
def nLcB (ti : DT) (g : DTg) (tt : DB) (te : DT) (vs : List Nat) : DN := fun ρ Q => ti ρ fun x => xWipeB ρ vs fun ρ' => xLcB g tt te ρ' x Q
where xWipeB (ρ : Rho) (vs : List Nat) (K : Rho → Pd) : Pd := K (wipeR ρ vs)
theorem lift_lcB {ti : DT} {g : DTg} {tt : DB} {te : DT} {vs : List Nat} (hi0 : MonoT ti) (hg0 : MonoG g) (ht0 : MonoT tt) (he0 : MonoT te) {Q : VK} (q : ∃ W ρ, SR Z.P X.K Z.H0 Z.W0 W σ H ρ ∧ nLcB ti g tt te vs ρ (TellN Z.P X.K W H Q) W.c) :
    tLc (iList X.K (liftE Z.P X.K Z.H0 Z.W0 ti)) (liftGn Z X.K vs g) (liftB Z.P X.K Z.H0 Z.W0 tt) (liftE Z.P X.K Z.H0 Z.W0 te) vs σ H Q := by
  obtain ⟨W, ρ, S, q⟩ := q
  refine ⟨W, ρ, S, hi0 ρ _ _ _ (fun x n q v W1 H1 f1 c1 r1 => ?_) q⟩
  subst c1
  obtain ⟨k, xs, rfl, h, hsz, q⟩ := q
  obtain ⟨a, ys, rfl, hb0, h1', rl0⟩ := box_lst f1.box r1 h
  refine ⟨a, rfl, ⟨ys, SqL.of h1'⟩, fun Dl nD => ?_⟩
  have at_ : ∀ {W' : Wd} {H' : Hp}, Wle W1 W' → BoxOk Z.P X.K W' H' → W'.c.isL k xs → ∃ ys, H' a = some (.lst ys) ∧ RepL Z.P X.K W' xs ys := fun {W' H'} l bo hl => by
    obtain ⟨a', ys', e, hb', h', rl⟩ := box_lst bo (Rep.mono l _ _ r1) hl
    cases e
    exact ⟨ys', h', rl⟩
  have S1 := S.step f1
  obtain ⟨fl, nF, nB⟩ := Fr0.laid (o := .lst []) f1.sub f1.box nD
  refine lc_it (walk_box (n := xs.length)) (fun i H' => ∃ W' acc ws, Fr0 Z.P X.K H1 W1 W' H' ∧ H' Dl = some (.lst ws) ∧ RepL Z.P X.K W' acc ws ∧ W'.F Dl = none ∧ W'.B Dl = none ∧ acc.length ≤ i ∧ dLcLB k xs g tt te (wipeR ρ vs) (xs.drop i) acc (TellN Z.P X.K W H Q) W'.c)
    ⟨W1, [], [], fl, upd_same, RepL.nil, nF, nB, Nat.zero_le _, by rw [List.drop_zero]; exact q⟩ (fun i H' _ ⟨W', acc, ws, f, _, _, _, _, _, q⟩ => ?_) ?_ ?_
  · obtain ⟨ys', h', rl⟩ := at_ f.le f.box (dLcLB_isL q)
    exact ⟨ys', h', rl.length.symm⟩
  · rintro i x H' H2 hi ⟨W', acc, ws, f, hD, rl, mF, mB, ha, q⟩ ⟨rfl, ys2, g2, hx⟩
    obtain ⟨ys', g3, rl3⟩ := at_ f.le f.box (dLcLB_isL q)
    rw [g3] at g2
    cases g2
    obtain ⟨p, ep, r2⟩ := rl3.get' hx
    rw [drop_of ep] at q
    obtain ⟨_, q⟩ := q
    have Sw : SR Z.P X.K Z.H0 Z.W0 W' (L2.wipe σ vs) H2 (wipeR ρ vs) := (S1.wipe vs).step f
    have stay : ∀ {Wa Wb : Wd} {Ha Hb : Hp}, Fr0 Z.P X.K Ha Wa Wb Hb → Ha Dl = some (.lst ws) → Wa.F Dl = none → Wa.B Dl = none → Hb Dl = some (.lst ws) ∧ Wb.F Dl = none ∧ Wb.B Dl = none := fun {Wa Wb Ha Hb} f h1 h2 h3 => by
      refine ⟨f.keep _ _ h1 h3, ?_, ?_⟩
      · cases e : Wb.F Dl with
        | none => rfl
        | some u => rcases f.freshF _ u e with z | z; rw [h2] at z; cases z; rw [h1] at z; cases z
      · cases e : Wb.B Dl with
        | none => rfl
        | some u => rcases f.freshB _ u e with z | z; rw [h3] at z; cases z; rw [h1] at z; cases z
    refine ⟨W', wipeR ρ vs, p, Sw, r2, hg0 p _ _ _ _ (fun ρ2 n q cg σ2 S2 ag => ⟨wipe_agree ag, ?_⟩) q⟩
    subst cg
    have S2 := S2 W' H2 (Wle.refl _) Sw
    refine ⟨W', ρ2, S2, ht0 ρ2 _ _ _ (fun b n q W3 H3 f3 c3 => ?_) q⟩
    subst c3
    obtain ⟨hD3, mF3, mB3⟩ := stay f3 hD mF mB
    cases b with
    | true =>
      rw [if_pos rfl] at q ⊢
      refine ⟨W3, ρ2, S2.step f3, he0 ρ2 _ _ _ (fun y n q v W4 H4 f4 c4 r4 => ?_) q⟩
      subst c4
      obtain ⟨hD4, mF4, mB4⟩ := stay f4 hD3 mF3 mB3
      have f5 : Fr0 Z.P X.K H1 W1 W4 H4 := (f.trans f3).trans f4
      have l5 := RepL.mono (f3.le.trans f4.le) _ _ rl
      refine ⟨ws, hD4, by rw [← rl.length]; omega, W4, acc ++ [y], ws ++ [v], ?_, upd_same, l5.append (RepL.cons r4 RepL.nil), mF4, mB4, by rw [List.length_append]; exact Nat.succ_le_succ ha, q⟩
      refine ⟨f5.le, fun z u hz => ?_, fun z u hz nz => ?_, f5.freshF, f5.freshB, fun z k hz => ?_, fun ev => ⟨(f5.bx ev).1, fun z k hz hk => ⟨((f5.bx ev).2 z k hz hk).1, by rw [upd_ne (fun c => by rw [c, mB4] at hz; cases hz)]; exact ((f5.bx ev).2 z k hz hk).2⟩⟩⟩
      · rw [upd_ne (fun c => by rw [c, mF4] at hz; cases hz)]; exact f5.sub z u hz
      · rw [upd_ne (fun c => by rw [c, nD] at hz; cases hz)]; exact f5.keep z u hz nz
      · obtain ⟨g1, u, g2, g3⟩ := f5.box z k hz
        exact ⟨g1, u, by rw [upd_ne (fun c => by rw [c, mB4] at hz; cases hz)]; exact g2, g3⟩
    | false =>
      rw [if_neg Bool.false_ne_true] at q ⊢
      exact ⟨W3, acc, ws, f.trans f3, hD3, RepL.mono f3.le _ _ rl, mF3, mB3, Nat.le_succ_of_le ha, q⟩
  · rintro H' ⟨W', acc, ws, f, hD, rl, mF, mB, ha, q⟩
    rw [List.drop_length] at q
    exact q.2 Dl ws W' H' (f1.trans f) rfl (f1.back S.box nD) hD mF mB rl
theorem dn_compB {elt tg iter : Expr} {ifs : List Expr} {scope : Scope} {own : List (Str × Nat)} {ti : DT} {g : DTg} {tt : DB} {te : DT} (s0 : Shared) (D : DX Z X Ex) (hN : X.N.Nodup) (hi : DE Z X iter ti) (ok : BlkOk X.N X.env.scope scope own) (hb : Inner Z X scope tg ifs elt (own.map (·.2)) g tt te) (hs : ∀ x, foldedSetIterable iter X.env x = pure x := by intro _; rfl) :
    DNw Z X (.ListComp elt [⟨tg, iter, ifs, 0⟩] scope pos) (nLcB ti g tt te (own.map (·.2))) := by
  obtain ⟨h1, h2, h3⟩ := hb s0 (fun _ => none) 0 [] [] (dx_blk D)
  exact ⟨fun ρ Q Q' n hq q => hi.mono ρ _ _ n (fun x n q => let ⟨k, xs, e, h, z, q⟩ := q; ⟨k, xs, e, h, z, dLcLB_mono h1.mono h2.mono h3.mono hq xs [] n q⟩) q,
    PE.weak (pe_lc (g := liftGn Z X.K (own.map (·.2)) g) (tt := liftB Z.P X.K Z.H0 Z.W0 tt) (te := liftE Z.P X.K Z.H0 Z.W0 te) D.calm hN (pi_list hi.run) ok (fun s H C cl fp => (hb s H C cl fp (dx_blk D)).1.run) (fun s H C cl fp => (hb s H C cl fp (dx_blk D)).2.1.run) (fun s H C cl fp => (hb s H C cl fp (dx_blk D)).2.2.run) hs) fun σ H Q q => lift_lcB hi.mono h1.mono h2.mono h3.mono q⟩
end
def dBoxS (i : Nat) (t : DSt) : DSt := fun D ρ n => match ρ[i]? with
  | some (.own xs) => t D (ρ.set i (.fz (.box (n.nx + 10)))) (n.new (.lst xs))
  | _ => t D ρ n
def liftSpB (P : Par) (K : PySem.W.Frag) (c : Nat) (D : DSp) : Sp := fun vs H Q E => ∃ Hb W ps x dx us, vs = .ref x :: us ∧ H = insH Hb x dx (P.cm c) ∧ Hb x = none ∧ Hb dx = none ∧ dx ≠ x ∧ Same W.F Hb ∧ BoxOk P K W Hb ∧ RepL P K W ps us ∧
  D ps (fun p n => ∀ W' H', Fr0 P K Hb W W' H' → W'.c = n → Rep P K W' p (.ref x) → Q .non H') (upX P K Hb W E) W.c
structure FnB (Z : Par) (prog : Program) (w : World) (K : PySem.W.Frag) (mg : Str → Option Value) (base : Heap) (k : Nat) (f : Addr) (fd : FuncData) (ps : List Str) (c : Nat) (D : DSp) : Prop where
  mono : MonoSp D
  ok : FnOk prog w K mg base (L2.CX prog w) k f fd ps (liftSpB Z K c D)
section
variable {Z : Cz} {X : Cx} {K : PySem.W.Frag} {e : Expr} {es : List Expr} {pos p : Pos} {ta te : DT} {t : DA} {Ex : PX → Pd} {k c : Nat} {f : Addr} {fd : FuncData} {ps : List Str} {D : DSp} {x : Str} {dps : List PV} {dvs : List V}
def dMakeB (D : DSp) (dps : List PV) (Ex : PX → Pd) (t : DA) : DT := fun ρ Q => t ρ fun ps => D (ps ++ dps) Q Ex
end
section
variable {Zp : Par} {P : Program} {w : World} {K : PySem.W.Frag} {mg : Str → Option Value} {base : Heap}
end
end DL
set_option maxRecDepth 100000
set_option maxHeartbeats 1000000
namespace DL
open PySem L2 GF
section
variable {ρ : Rho} {Q : PV → Pd} {QA : List PV → Pd} {QB : Bool → Pd} {n : Ck} {D : DEnds} {to te ti : DT} {tn : DN} {tA : DA} {x y p q i : PV} {xs ys zs vs us : List PV} {k j m a c : Nat} {f : Str} {fn : Nat → List Str} {Kp : Pd} {g : DTg} {b : DSt} {g2 : G2} {Ds : DSp} {dps : List PV} {Ex : PX → Pd} {tt : DB} {α : Type} {h : α → PV} {l : List α} {F : Nat → Pd}
theorem o_box (q : tn ρ (fun xs n => Q (.box (n.nx + 10)) (n.new (.lst xs))) n) : dBox tn ρ Q n := q
theorem o_boxS {t : DSt} {i : Nat} (g : GetAt ρ i (.own xs)) (q : xSet ρ i (.fz (.box (n.nx + 10))) (t D) (n.new (.lst xs))) : dBoxS i t D ρ n := by unfold dBoxS; rw [g.eq]; unfold xSet at q; exact q
theorem r_bl1 (e : n.isL k xs) (q : F k n) : xBL (.box k) F n := ⟨k, xs, rfl, e, q⟩
theorem o_bapp (q : to ρ (fun x => xBL x fun k => te ρ fun p => xBApp k p Q) n) : dBApp to te ρ Q n := q
theorem r_bappm {v : α} (e : n.isL k (l.map h)) (ep : p = h v) (z : l.length ≤ 1000000) (q : Q .non (n.put k (.lst ((l ++ [v]).map h)))) : xBApp k p Q n := by
  subst ep
  rw [List.map_append] at q
  exact ⟨_, e, by rw [List.length_map]; exact Nat.lt_of_le_of_lt z (by decide), q⟩
theorem r_bappn {l : List Nat} {v : Nat} (e : n.isL k (nl l)) (z : l.length ≤ 1000000) (q : Q .non (n.put k (.lst (nl (l ++ [v]))))) : xBApp k (.int (v : Int)) Q n := r_bappm (h := fun b : Nat => PV.int (b : Int)) e rfl z q
theorem r_bapp (e : n.isL k xs) (z : xs.length ≤ 1000000) (q : Q .non (n.put k (.lst (xs ++ [p])))) : xBApp k p Q n := ⟨xs, e, Nat.lt_of_le_of_lt z (by decide), q⟩
theorem o_bpop0 (q : to ρ (fun x => xBL x fun k => xBPop0 k Q) n) : dBPop0 to ρ Q n := q
theorem o_bpop (q : to ρ (fun x => xBL x fun k => ti ρ fun i => xBPop k i Q) n) : dBPop to ti ρ Q n := q
theorem o_bins (q : to ρ (fun x => xBL x fun k => ti ρ fun i => te ρ fun p => xBIns k i p Q) n) : dBIns to ti te ρ Q n := q
theorem o_bext (q : to ρ (fun x => xBL x fun k => te ρ fun p => xBExt k p Q) n) : dBExt to te ρ Q n := q
theorem o_bput (q : te ρ (fun p => to ρ fun x => ti ρ fun i => xBPut x i p (D.nx ρ)) n) : dBPut te to ti D ρ n := q
theorem r_bput (e : n.isL k xs) (z : m < xs.length) (q : Kp (n.put k (.lst (xs.set m p)))) : xBPut (.box k) (.int (m : Nat)) p Kp n := ⟨k, xs, m, m, rfl, e, rfl, ixn_nat z, q⟩
theorem r_bputm {v : α} (e : n.isL k (l.map h)) (ep : p = h v) (z : m < l.length) (q : Kp (n.put k (.lst ((l.set m v).map h)))) : xBPut (.box k) (.int (m : Nat)) p Kp n := by
  subst ep
  rw [List.map_set] at q
  exact r_bput e (by rw [List.length_map]; exact z) q
theorem r_bputn {l : List Nat} {v : Nat} (e : n.isL k (nl l)) (z : m < l.length) (q : Kp (n.put k (.lst (nl (l.set m v))))) : xBPut (.box k) (.int (m : Nat)) (.int (v : Int)) Kp n := r_bputm (h := fun b : Nat => PV.int (b : Int)) e rfl z q
theorem o_bset (q : te ρ (fun p => to ρ fun x => xBSet c f fn x p (D.nx ρ)) n) : dBSet c f fn te to D ρ n := q
inductive SetAt : List PV → Nat → PV → List PV → Prop
  | zero {a y : PV} {l : List PV} : SetAt (a :: l) 0 y (y :: l)
  | succ {a y : PV} {l l' : List PV} {i : Nat} : SetAt l i y l' → SetAt (a :: l) (i + 1) y (a :: l')
theorem SetAt.eq {l l' : List PV} {i : Nat} {y : PV} (h : SetAt l i y l') : l.set i y = l' ∧ i < l.length := by
  induction h with
  | zero => exact ⟨rfl, Nat.zero_lt_succ _⟩
  | succ _ ih => exact ⟨by rw [List.set_cons_succ, ih.1], Nat.succ_lt_succ ih.2⟩
theorem r_bset_new (e : n.isI k c vs) (s : SnocTo vs p us) (e2 : (fn c)[vs.length]? = some f) (q : Kp (n.put k (.ins c us))) : xBSet c f fn (.box k) p Kp n := ⟨k, vs, rfl, e, .inr ⟨e2, by rw [s.eq]; exact q⟩⟩
theorem r_bset_old (e : n.isI k c vs) (e2 : (fn c)[j]? = some f) (s : SetAt vs j p us) (q : Kp (n.put k (.ins c us))) : xBSet c f fn (.box k) p Kp n := ⟨k, vs, rfl, e, .inl ⟨j, e2, s.eq.2, by rw [s.eq.1]; exact q⟩⟩
theorem o_baug (q : to ρ (fun x => gF c j x fun y => te ρ fun z => g2 y z fun p => xBSet c f fn x p (D.nx ρ)) n) : dBAug c j f fn g2 to te D ρ n := q
theorem o_makeB (q : tA ρ (fun ps => Ds ps Q Ex) n) : dMakeB Ds [] Ex tA ρ Q n := by unfold dMakeB; simp only [List.append_nil]; exact q
theorem o_makeB1 (q : tA ρ (fun ps => xSnoc ps p fun zs => Ds zs Q Ex) n) : dMakeB Ds [p] Ex tA ρ Q n := q
theorem o_forB (q : te ρ (fun x => xForB g b D ρ x) n) : dForB te g b D ρ n := q
theorem o_lcB {vs' : List Nat} (q : ti ρ (fun x => nLcB.xWipeB ρ vs' fun ρ' => xLcB g tt te ρ' x QA) n) : nLcB ti g tt te vs' ρ QA n := q
theorem o_wipeB0 {K : Rho → Pd} (q : K ρ n) : nLcB.xWipeB ρ [] K n := q
theorem o_wipeB1 {K : Rho → Pd} {v : Nat} {vs : List Nat} (q : nLcB.xWipeB ρ vs (fun ρ' => xSet ρ' v .no K) n) : nLcB.xWipeB ρ (v :: vs) K n := by
  unfold xSet at q; exact q
theorem o_wipeBm {K : Rho → Pd} {nm : Str} {v : Nat} {vs : List (Str × Nat)} (q : nLcB.xWipeB ρ (vs.map (·.2)) (fun ρ' => xSet ρ' v .no K) n) : nLcB.xWipeB ρ (((nm, v) :: vs).map (·.2)) K n := by
  unfold xSet at q; exact q
theorem o_wipeBm0 {K : Rho → Pd} (q : K ρ n) : nLcB.xWipeB ρ (([] : List (Str × Nat)).map (·.2)) K n := q
theorem r_len_bm (e : n.isL k (l.map h)) (q : Q (.int (l.length : Nat)) n) : xLen (.box k) Q n := by unfold xLen; exact ⟨_, e, by rw [List.length_map]; exact q⟩
theorem r_len_b (e : n.isL k xs) (q : Q (.int (xs.length : Nat)) n) : xLen (.box k) Q n := by unfold xLen; exact ⟨_, e, q⟩
theorem r_tru_bm (e : n.isL k (l.map h)) (q : QB (decide (l ≠ [])) n) : xTru (.box k) QB n := by
  unfold xTru
  refine ⟨_, e, ?_⟩
  have : (!(l.map h).isEmpty) = decide (l ≠ []) := by cases l <;> simp
  rw [this]; exact q
theorem r_ix_bn {l : List Nat} (e : n.isL k (nl l)) (z : a < l.length) (q : Q (.int (l.getD a 0 : Nat)) n) : xIx (.box k) (.int (a : Nat)) Q n := by
  unfold xIx
  exact ⟨_, _, e, atI_nat (by rw [List.getElem?_map, get_getD z]; rfl), q⟩
theorem r_ix_b (e : n.isL k xs) (z : xs[a]? = some x) (q : Q x n) : xIx (.box k) (.int (a : Nat)) Q n := by
  unfold xIx
  exact ⟨_, _, e, atI_nat z, q⟩
theorem r_list_b (e : n.isL k xs) (q : Q (.lst xs) n) : xList (.box k) Q n := by unfold xList; exact ⟨_, e, q⟩
theorem r_tup_b (e : n.isL k xs) (q : Q (.tup xs) n) : xTuple (.box k) Q n := by unfold xTuple; exact ⟨_, e, q⟩
theorem r_sl_bfr (e : n.isL k (l.map h)) (q : Q (.lst ((l.drop a).map h)) n) : xSl (.box k) (some (a : Int)) none Q n := by
  unfold xSl; refine ⟨_, e, ?_⟩; rw [cut_map, cut_from]; exact q
theorem r_sl_bto (e : n.isL k (l.map h)) (q : Q (.lst ((l.take a).map h)) n) : xSl (.box k) none (some (a : Int)) Q n := by
  unfold xSl; refine ⟨_, e, ?_⟩; rw [cut_map, cut_to]; exact q
theorem r_forB0 (e : n.isL k []) (q : D.nx ρ n) : xForB g b D ρ (.box k) n := ⟨k, [], rfl, e, e, q⟩
theorem r_lcBF {β : Type} {f hh : β → PV} {L : List β} {p : β → Bool} (e : n.isL k (L.map f)) (hl : L.length ≤ 1000000)
    (step : ∀ (i : Nat) (a : β) (kk : PV → Pd) (z : Pd), L[i]? = some a → (p a = true → kk (hh a) n) → (p a = false → z n) → g (f a) ρ (fun ρ2 => tt ρ2 fun v => xIf v (te ρ2 kk) z) n)
    (fin : QA ((L.filter p).map hh) n) : xLcB g tt te ρ (.box k) QA n := by
  simp only [xIf_ite] at step
  refine ⟨k, L.map f, rfl, e, by rw [List.length_map]; exact Nat.lt_of_le_of_lt hl (by decide), ?_⟩
  have key : ∀ (ys : List β) (i : Nat) (acc : List PV), i ≤ L.length → L.drop i = ys → acc = ((L.take i).filter p).map hh → dLcLB k (L.map f) g tt te ρ (ys.map f) acc QA n := by
    intro ys
    induction ys with
    | nil =>
      intro i acc hle hi ha
      have hl : L.length ≤ i := List.drop_eq_nil_iff.1 hi
      rw [List.take_of_length_le hl] at ha
      subst ha
      exact ⟨e, fin⟩
    | cons y ys ih =>
      intro i acc hle hi ha
      have hx : L[i]? = some y := by
        have : (L.drop i)[0]? = some y := by rw [hi]; rfl
        rw [List.getElem?_drop] at this
        simpa using this
      have hd : L.drop (i + 1) = ys := by rw [← List.drop_drop, hi]; rfl
      have hlt := (List.getElem?_eq_some_iff.mp hx).1
      refine ⟨e, step i y _ _ hx (fun hp => ih (i + 1) _ hlt hd ?_) (fun hp => ih (i + 1) _ hlt hd ?_)⟩
      · rw [ha, List.take_add_one, hx, List.filter_append, List.map_append]; simp [hp]
      · rw [ha, List.take_add_one, hx, List.filter_append]; simp [hp]
  exact key L 0 [] (Nat.zero_le _) (by simp) rfl
theorem r_lcB {β : Type} {f hh : β → PV} {L : List β} (e : n.isL k (L.map f)) (hl : L.length ≤ 1000000)
    (step : ∀ (i : Nat) (a : β) (kk : PV → Pd) (z : Pd), L[i]? = some a → kk (hh a) n → g (f a) ρ (fun ρ2 => tt ρ2 fun v => xIf v (te ρ2 kk) z) n)
    (fin : QA (L.map hh) n) : xLcB g tt te ρ (.box k) QA n :=
  r_lcBF (p := fun _ => true) e hl (fun i a kk z ha h1 _ => step i a kk z ha (h1 rfl)) (by rw [List.filter_eq_self.2 (fun _ _ => rfl)]; exact fin)
end
end DL
namespace DL
open PySem L2 GF
section
variable {u : PV} {n : Ck} {l : List PV} {Q : PV → Pd} {QA : List PV → Pd} {k : Nat}
end
end DL
namespace DL
open PySem L2 GF
section
variable {n : Ck} {Q : PV → Pd} {a : List Nat}
theorem nl_snoc (l : List Nat) (b : Nat) : nl l ++ [PV.int (b : Int)] = nl (l ++ [b]) := by unfold nl; rw [List.map_append]; rfl
end
end DL
namespace DL
open PySem L2 GF
section
variable {n : Ck} {Q : PV → Pd} {l : List Nat} {b : Nat}
theorem r_add_ls (h : l.length ≤ 999999) (q : Q (.lst (nl (l ++ [b]))) n) : xAdd (.lst (nl l)) (.lst [.int (b : Int)]) Q n := r_add_ll (by rw [List.length_map]; simp only [List.length_cons, List.length_nil]; omega) (by rw [nl_snoc]; exact q)
theorem r_add_ts (h : l.length ≤ 999999) (q : Q (.tup (nl (l ++ [b]))) n) : xAdd (.tup (nl l)) (.tup [.int (b : Int)]) Q n := r_add_tt (by rw [List.length_map]; simp only [List.length_cons, List.length_nil]; omega) (by rw [nl_snoc]; exact q)
theorem r_add_sl (h : l.length ≤ 999999) (q : Q (.lst (nl (b :: l))) n) : xAdd (.lst [.int (b : Int)]) (.lst (nl l)) Q n := r_add_ll (by rw [List.length_map]; simp only [List.length_cons, List.length_nil]; omega) q
theorem r_add_st (h : l.length ≤ 999999) (q : Q (.tup (nl (b :: l))) n) : xAdd (.tup [.int (b : Int)]) (.tup (nl l)) Q n := r_add_tt (by rw [List.length_map]; simp only [List.length_cons, List.length_nil]; omega) q
end
end DL
set_option maxRecDepth 100000
set_option maxHeartbeats 2000000
namespace GQ2
open PySem PySem.Spec PyProof.Rows GQ
section
variable {prog : Program} {w : World} {A : Around} {R : Result → Shared → Prop}
end
end GQ2
namespace DL
open PySem L2
section
variable {P : Par} {K : PySem.W.Frag} {W : Wd}
end
section
variable {Z : Cz} {X : Cx} {c : Nat} {D : DSp} {k : Nat} {f : Addr} {fd : FuncData} {ps : List Str}
end
end DL
set_option maxRecDepth 100000
set_option maxHeartbeats 2000000
namespace GQ2
open PySem PySem.Spec PyProof.Rows GQ
open PySem.SeqAt
open AutoSeq1 (wpAny_loadPart')
open MeetsSeq MeetsSeq2 MeetsSeq3 SeqRoads2
section
variable {prog : Program} {w : World} {A : Around} {R : Result → Shared → Prop}
end
end GQ2
namespace DL
open PySem L2
section
variable {Z : Cz} {X : Cx}
def gEqNil : G2 := fun x y Q n => ∃ xs, x = .lst xs ∧ y = .lst [] ∧ Q (.bl xs.isEmpty) n
end
theorem r_eqNil_m {α : Type} {f : α → PV} {l : List α} {Q : PV → Pd} {n : Ck} (q : Q (.bl (decide (l = []))) n) : gEqNil (.lst (l.map f)) (.lst []) Q n := ⟨_, rfl, rfl, by
  have : (l.map f).isEmpty = decide (l = []) := by cases l <;> simp
  rw [this]; exact q⟩
end DL
set_option maxRecDepth 100000
set_option maxHeartbeats 2000000
namespace DL
open PySem L2
section
variable {Z : Cz} {X : Cx} {P : Par} {K : PySem.W.Frag} {W : Wd} {H : Hp} {Ex : PX → Pd} {σ : L2.St} {ρ : Rho} {pos : Pos}
def dLcI (g : DTg) (tt : DB) (te : DT) (ρ : Rho) : List PV → List PV → (List PV → Pd) → Pd
  | [], acc, Q => Q acc
  | x :: xs, acc, Q => g x ρ fun ρ2 => tt ρ2 fun b => if b = true then te ρ2 fun y n => acc.length < sizeLine ∧ dLcI g tt te ρ xs (acc ++ [y]) Q n else dLcI g tt te ρ xs acc Q
def dLc2 (g : DTg) (tt : DB) (ti1 : DIt) (g1 : DTg) (tt1 : DB) (te : DT) (vs1 : List Nat) (ρ : Rho) : List PV → List PV → (List PV → Pd) → Pd
  | [], acc, Q => Q acc
  | x :: xs, acc, Q => g x ρ fun ρ2 => tt ρ2 fun b => if b = true then ti1 ρ2 fun ys => dLcI g1 tt1 te (wipeR ρ2 vs1) ys acc fun acc' => dLc2 g tt ti1 g1 tt1 te vs1 ρ xs acc' Q else dLc2 g tt ti1 g1 tt1 te vs1 ρ xs acc Q
@[irreducible] def xLc2 (g : DTg) (tt : DB) (ti1 : DIt) (g1 : DTg) (tt1 : DB) (te : DT) (vs1 : List Nat) (ρ : Rho) (xs : List PV) (Q : List PV → Pd) : Pd := dLc2 g tt ti1 g1 tt1 te vs1 ρ xs [] Q
def nLc2 (ti : DIt) (g : DTg) (tt : DB) (ti1 : DIt) (g1 : DTg) (tt1 : DB) (te : DT) (vs vs1 : List Nat) : DN := fun ρ Q => ti ρ fun xs => xWipe ρ vs fun ρ' => xLc2 g tt ti1 g1 tt1 te vs1 ρ' xs Q
def Grow (Z : Cz) (K : PySem.W.Frag) (H1 : Hp) (W1 : Wd) (Dl : Addr) (acc : List PV) (W' : Wd) (H' : Hp) : Prop := ∃ ws, Fr0 Z.P K H1 W1 W' H' ∧ H' Dl = some (.lst ws) ∧ RepL Z.P K W' acc ws ∧ W'.F Dl = none ∧ W'.B Dl = none
theorem Grow.step {H1 : Hp} {W1 W' W2 : Wd} {Dl : Addr} {acc : List PV} {H' H2 : Hp} (g : Grow Z X.K H1 W1 Dl acc W' H') (f : Fr0 Z.P X.K H' W' W2 H2) : Grow Z X.K H1 W1 Dl acc W2 H2 := by
  obtain ⟨ws, f0, h, rl, mF, mB⟩ := g
  refine ⟨ws, f0.trans f, f.keep _ _ h mB, RepL.mono f.le _ _ rl, ?_, ?_⟩
  · cases e : W2.F Dl with
    | none => rfl
    | some u => rcases f.freshF _ u e with z | z; rw [mF] at z; cases z; rw [h] at z; cases z
  · cases e : W2.B Dl with
    | none => rfl
    | some u => rcases f.freshB _ u e with z | z; rw [mB] at z; cases z; rw [h] at z; cases z
theorem Grow.add {H1 : Hp} {W1 W' : Wd} {Dl : Addr} {acc : List PV} {H' : Hp} {y : PV} {v : V} (nD : H1 Dl = none) (g : Grow Z X.K H1 W1 Dl acc W' H') (r : Rep Z.P X.K W' y v) : ∃ ws, H' Dl = some (.lst ws) ∧ ws.length = acc.length ∧ Grow Z X.K H1 W1 Dl (acc ++ [y]) W' (upd H' Dl (.lst (ws ++ [v]))) := by
  obtain ⟨ws, f, h, rl, mF, mB⟩ := g
  refine ⟨ws, h, rl.length.symm, ws ++ [v], ⟨f.le, fun z u hz => ?_, fun z u hz nz => ?_, f.freshF, f.freshB, fun z k hz => ?_, fun ev => ⟨(f.bx ev).1, fun z k hz hk => ⟨((f.bx ev).2 z k hz hk).1, by rw [upd_ne (fun c => by rw [c, mB] at hz; cases hz)]; exact ((f.bx ev).2 z k hz hk).2⟩⟩⟩, upd_same, rl.append (RepL.cons r RepL.nil), mF, mB⟩
  · rw [upd_ne (fun c => by rw [c, mF] at hz; cases hz)]; exact f.sub z u hz
  · rw [upd_ne (fun c => by rw [c, nD] at hz; cases hz)]; exact f.keep z u hz nz
  · obtain ⟨g1, u, g2, g3⟩ := f.box z k hz
    exact ⟨g1, u, by rw [upd_ne (fun c => by rw [c, mB] at hz; cases hz)]; exact g2, g3⟩
theorem Grow.fr {H1 : Hp} {W1 W' : Wd} {Dl : Addr} {acc : List PV} {H' : Hp} (g : Grow Z X.K H1 W1 Dl acc W' H') : Fr0 Z.P X.K H1 W1 W' H' := let ⟨_, f, _⟩ := g; f
end
section
variable {g g1 : DTg} {tt tt1 : DB} {te : DT} {ti ti1 : DIt} {ρ : Rho} {n : Ck} {QA : List PV → Pd} {vs vs1 : List Nat} {α β : Type} {f : α → PV} {f1 hb : β → PV} {hh : α → β → PV} {inn : α → List β} {l : List α} {m : List β} {acc : List PV}
theorem o_lc2 (h : ti ρ (fun xs => xWipe ρ vs fun ρ' => xLc2 g tt ti1 g1 tt1 te vs1 ρ' xs QA) n) : nLc2 ti g tt ti1 g1 tt1 te vs vs1 ρ QA n := h
end
end DL
namespace DL
open PySem L2 GF
section
variable {ρ ρ' : Rho} {n : Ck} {D : DEnds} {QA : List PV → Pd} {g : DTg} {tt : DB} {te : DT} {vs : List Nat} {i j : Nat} {u : PV} {α : Type} {f h : α → PV} {l : List α} {t t' : DN} {ts ts' : DSt} {di di' : DIt} {b : DSt}
end
end DL
set_option maxRecDepth 100000
set_option maxHeartbeats 2000000
namespace DL
open PySem L2
section
variable {X : Cx} {pins : List (Addr × Obj)} {σ : L2.St} {H : Hp} {s : Shared}
end
section
variable {Z : Cz} {X : Cx} {P : Par} {K : PySem.W.Frag} {W : Wd} {e a b : Expr} {pos p : Pos}
def row (t : Bool) (xs : List PV) : PV := bif t then .tup xs else .lst xs
end
section
variable {α β : Type} {f : α → PV} {f' : β → PV} {l : List α} {l' : List β} {Q : List PV → Pd} {n : Ck} {tA : DA} {ρ : Rho} {QA : List PV → Pd} {xs ys : List PV}
end
section
variable {g : Nat → PV} {k a : Nat} {Q : PV → Pd} {n : Ck}
end
section
variable {g g' : Nat → PV} {k : Nat} {Q : List PV → Pd} {n : Ck}
end
section
variable {g : Nat → PV} {k : Nat} {Q : PV → Pd} {n : Ck}
end
end DL
namespace DL
end DL
namespace DL
open PySem L2
theorem FnD.never {Z : Par} {prog : Program} {w : World} {K : PySem.W.Frag} {mg : Str → Option Value} {base : Heap} {k : Nat} {f : Addr} {fd : FuncData} {ps : List Str} {D : DSp} (m : MonoSp D) (h : ∀ vs Q E n, ¬ D vs Q E n) : FnD Z prog w K mg base k f fd ps D :=
  ⟨m, fun _ _ _ _ ⟨_, _, _, _, _, q⟩ => absurd q (h _ _ _ _), fun _ _ _ _ _ _ _ _ _ _ _ _ _ ⟨_, _, _, _, _, q⟩ => absurd q (h _ _ _ _)⟩
end DL
set_option maxRecDepth 100000
set_option maxHeartbeats 1000000
namespace DL
open PySem L2 GF
section
variable {Z : Cz} {X : Cx} {P : Par} {K : PySem.W.Frag} {W : Wd}
theorem repL_of_ints : ∀ ns : List Int, RepL P K W (ns.map .int) (ns.map V.int)
  | [] => RepL.nil
  | _ :: ns => RepL.cons (rep_int.2 rfl) (repL_of_ints ns)
end
section
variable {Z : Cz} {X : Cx} {Q : PV → Pd} {n : Ck}
end
end DL
namespace DL
theorem bt_sorted : PySem.bootBuiltins "sorted" = some (.builtin "sorted") := PyProof.Rows.boot_sorted
end DL
set_option maxRecDepth 100000
set_option maxHeartbeats 1000000
namespace DL
open PySem L2 GF
section
variable {Z : Cz} {X : Cx} {P : Par} {K : PySem.W.Frag} {W : Wd}
end
section
variable {Z : Cz} {X : Cx} {Q : PV → Pd} {n : Ck}
end
end DL
set_option maxRecDepth 100000
set_option maxHeartbeats 1000000
namespace DL
open PySem L2
section
variable {Z : Cz} {X : Cx} {P : Par} {K : PySem.W.Frag} {W : Wd} {H H0 : Hp} {W0 : Wd} {σ : L2.St} {ρ : Rho} {e : Expr} {te : DT}
theorem RepL.scal {W W' : Wd} : ∀ {ps : List PV} {vs : List V}, ps.all PV.scal = true → RepL P K W ps vs → RepL P K W' ps vs
  | [], vs, _, r => by simp only [RepL] at r ⊢; exact r
  | p :: ps, vs, h, r => by
    simp only [List.all_cons, Bool.and_eq_true] at h
    simp only [RepL] at r ⊢
    obtain ⟨y, zs, e, r1, r2⟩ := r
    exact ⟨y, zs, e, Rep.scal h.1 r1, RepL.scal h.2 r2⟩
end
end DL
set_option maxRecDepth 100000
set_option maxHeartbeats 1000000
namespace DL
open PySem L2
section
variable {Z : Cz} {X : Cx} {P : Par} {K : PySem.W.Frag} {W : Wd} {H : Hp} {e a b o : Expr} {es : List Expr} {pos apos : Pos} {te ti to : DT} {H0 : Hp} {W0 : Wd} {σ : L2.St} {ρ : Rho}
end
end DL
set_option maxRecDepth 100000
set_option maxHeartbeats 1000000
namespace DL
open PySem L2 GF
section
variable {ρ : Rho} {n : Ck} {g : DTg} {tt : DB} {te : DT} {α : Type} {f : α → PV} {l : List α}
end
end DL
namespace DL
open PySem L2 GF
section
variable {ρ : Rho} {n : Ck} {g : DTg} {tt : DB} {te : DT} {α : Type} {f : α → PV} {l : List α}
end
end DL
set_option maxRecDepth 100000
set_option maxHeartbeats 1000000
namespace DL
open PySem L2 GF
section
variable {Z : Cz} {X : Cx} {a e : Expr} {pos apos cpos xp : Pos} {ti te : DT}
end
section
variable {ρ : Rho} {n : Ck} {D : DEnds} {i m : Nat} {ti te : DT} {xs : List PV} {p : PV}
end
end DL
set_option maxRecDepth 100000
set_option maxHeartbeats 1000000
namespace DL
open PySem L2 GF
section
variable {Z : Cz} {X : Cx} {a : Expr} {p p' pos pos' : Pos} {ta : DT}
end
section
variable {ρ : Rho} {n : Ck} {ta : DT} {Q : List PV → Pd} {k : Nat}
end
end DL
set_option maxRecDepth 100000
set_option maxHeartbeats 1000000
namespace DL
open PySem L2
section
variable {Z : Cz} {X : Cx} {e : Expr} {te : DT} {pos p p2 : Pos}
end
end DL
set_option maxRecDepth 100000
set_option maxHeartbeats 1000000
namespace DL
open PySem L2
section
variable {P : Par} {K : PySem.W.Frag} {W : Wd} {H : Hp}
end
section
variable {Z : Cz} {X : Cx}
end
section
variable {x x' y y' : PV} {Q : PV → Pd} {n : Ck} {k : Nat} {xs : List PV}
end
end DL
set_option maxRecDepth 100000
set_option maxHeartbeats 1000000
namespace DL
open PySem L2
section
variable {c : DB} {b : DSt} {D : DEnds} {ρ : Rho} {n : Ck}
theorem r_whileH {γ : Type} (S : γ → Rho) (inv : γ → Ck → Prop) (m : γ → Nat) (a0 : γ) (h0 : ρ = S a0) (i0 : inv a0 n)
    (step : ∀ (a : γ) (n' : Ck) (Nx : Rho → Pd), inv a n' → (∀ a' n'', m a' < m a → inv a' n'' → Nx (S a') n'') → c (S a) (fun k => xIf k (b (lp D Nx) (S a)) (D.nx (S a))) n') : dWhile c b D ρ n := by
  simp only [xIf_ite] at step
  refine ⟨fun k ρ n' => ∃ a, k = m a ∧ inv a n' ∧ ρ = S a, ⟨_, a0, rfl, i0, h0⟩, ?_⟩
  rintro k ρ n' ⟨a, rfl, ia, rfl⟩
  exact step a n' _ ia fun a' n'' hm hi => ⟨m a', hm, a', rfl, hi, rfl⟩
end
end DL
set_option maxRecDepth 100000
set_option maxHeartbeats 1000000
namespace DL
open PySem L2
section
variable {Z : Cz} {X : Cx} {e : Expr} {te : DT} {pos p p2 : Pos}
end
section
variable {b a : String} {Q : PV → Pd} {n : Ck} {x : PV} {r : Bool} {k : Nat} {xs : List PV}
end
end DL
set_option maxRecDepth 100000
set_option maxHeartbeats 1000000
namespace DL
open PySem L2
section
variable {Z : Cz} {X : Cx} {e b o : Expr} {pos apos cpos : Pos} {te to : DT}
end
section
variable {te to : DT} {ρ : Rho} {n : Ck} {Q : PV → Pd} {k j : Nat} {p : PV} {α : Type} {f : α → PV} {l : List α} {v : α}
end
end DL
set_option maxRecDepth 100000
set_option maxHeartbeats 3200000
namespace DL
open PySem PySem.Spec PyProof.Rows L2
@[reducible] def nset (w : World) : Obj := { cls := .type "set", dict := none, data := .set #[] 0 (.fresh 0 0 (!w.params.followText "set-order")) }
section
variable {P : Program} {w : World} {A : Around} {E : Value → Shared → Prop} {s : Shared}
theorem ints_val {its : Array Value} {zs : List Int} (hs : its.size = zs.length) (hz : IntsAre its.toList zs) : ∀ (i : Nat) (v : Value), its[i]? = some v → ∃ k t, zs[i]? = some k ∧ v = .int k t := fun i v e => by
  have hi : i < zs.length := by have := (Array.getElem?_eq_some_iff.mp e).1; omega
  obtain ⟨t, e2⟩ := IntsAre.int_at hz i v (by rw [Array.getElem?_toList]; exact e)
  exact ⟨zs[i], t, List.getElem?_eq_getElem hi, by rw [e2, List.getD_eq_getElem?_getD, List.getElem?_eq_getElem hi]; rfl⟩
theorem call_set_lst {a : Addr} {its : Array Value} (zs : List Int) {Q : Value → Shared → Prop} (nh : A.handled = none) (ha : s.heap.IsList a its) (hz : IntsAre its.toList zs) (hb : zs.length + 1 < scanBound)
    (fin : ∀ (H2 : Heap) (tk c : Nat), SetR w H2 s.heap.objs.size (fun j => decide (j ∈ zs)) c → c ≤ zs.length → (∀ b o, s.heap.get? b = some o → H2.get? b = some o) → Q (.ref s.heap.objs.size) { s with heap := H2, toks := tk }) :
    wpAny (model P w) A (call (.type "set") [.ref a]) Q E s := by
  have hsz : its.size = zs.length := by have q := IntsAre.length hz; rwa [Array.length_toList] at q
  obtain ⟨c, tl, hmro⟩ := F.called_set.mro
  have g1 := F.called_set.made
  have g2 := F.called_set.sub
  refine wpAny_call (codeAny_of_tree ?_)
  show wpAny _ _ (callAny (Value.type "set") _) _ _ _
  refine wpAny_pure ⟨Code.quiet_builtin _ (by decide +kernel), codeAny_builtin F.entry_type_call ?_⟩
  rw [Around.under_plain (weight_type_call_type "set" [.ref a] []) rfl]
  have g3 := F.called_set.notType
  have g4 := F.called_set.canCreate
  have g5 := F.typeCall_set_1 (.ref a)
  repeat (any_goals (first | assumption | wp_step))
  refine codeAny_mono (code_set_led1 (.ref a) (E := E) (Q₁ := fun obj t => obj = .ref s.heap.objs.size ∧ t = { s with heap := s.heap.push (nset w) }) ⟨rfl, rfl⟩) fun r t hr => ?_
  cases r with
  | error e => exact hr
  | ok fl =>
    cases fl with
    | ret obj =>
      obtain ⟨rfl, rfl⟩ := hr
      have hS : (s.heap.push (nset w)).get? s.heap.objs.size = some (nset w) := Heap.get?_push_size _ rfl
      have hT : Shared.TypeIs { s with heap := s.heap.push (nset w) } (.ref s.heap.objs.size) "set" := ⟨_, hS, rfl⟩
      have g6 := F.called_set.init.lookup
      have g7 := F.called_set.init.bind (.ref s.heap.objs.size)
      repeat (any_goals (first | assumption | wp_step))
      refine codeAny_mono (codeAny_call_builtin (R := wants (fun r t => r = .none ∧ ∃ H2 tk c, t = { s with heap := H2, toks := tk } ∧ SetR w H2 s.heap.objs.size (fun j => decide (j ∈ zs)) c ∧ c ≤ zs.length ∧ (∀ b o, s.heap.get? b = some o → H2.get? b = some o)) E) F.called_set.init.plain F.entry_set_init (check_set_init_1 hT ?_)) fun r2 t2 hr2 => ?_
      · obtain ⟨⟨kc, kd, kdat, ksl⟩, ho, hc, nl, hd⟩ := ha
        simp only at hc hd
        subst hc hd
        have ho2 : (s.heap.push (nset w)).get? a = some { cls := .type "list", dict := kd, data := .seq its nl, slots := ksl } := Heap.get?_push_of_some _ ho
        have g8 := F.sub_list_set
        have g9 := F.sub_list_frozenset
        have g10 : (Value.type "list" == Value.type "dict") = false := by decide
        have hl1 : (s.heap.push (nset w)).IsList a its := ⟨_, ho2, rfl, nl, rfl⟩
        unfold Builtin.«set.__init__» noKeywords Builtin.Frozenset.updateFrom
        generalize hPI : pyIter = PI
        wp_walk
        subst hPI
        refine wpAny_pyIter_list hl1 ?_
        refine wpAny_bind (wpAny_runValue ?_)
        have hlt : a < s.heap.objs.size := Heap.lt_size ho
        have nh3 : A.in1.in1.in1.handled = none := by simp [nh]
        have hsp : (s.heap.push (nset w)).objs.size = s.heap.objs.size + 1 := Heap.size_push ..
        have hne : a ≠ (s.heap.push (nset w)).objs.size := by rw [hsp]; exact Nat.ne_of_lt (Nat.lt_succ_of_lt hlt)
        have hSf : s.heap.objs.size ∉ [(s.heap.push (nset w)).objs.size, a] := fun z => by
          rcases List.mem_cons.1 z with z | z
          · rw [hsp] at z; exact absurd z (Nat.ne_of_lt (Nat.lt_succ_self _))
          · exact absurd (List.mem_singleton.1 z) (Nat.ne_of_gt hlt)
        refine set_update_ints ((Walks.list nh3 _ a hne its).toS) s.heap.objs.size hSf zs hsz hb (ints_val hsz hz) (its.size - 0) 0 _ (by omega) (Nat.zero_le _) ⟨⟨_, Heap.get?_push_size _ rfl, rfl, rfl⟩, (hl1.push _)⟩ ?G1 ?G2
        case G1 => exact ⟨0, Nat.le_refl 0, setR_new_at (Heap.get?_push_of_some _ hS)⟩
        case G2 =>
          intro t c2 hm hc2 hS2
          obtain ⟨t1, t2, t3, t4, t5⟩ := t
          have e1 : t2 = s.gens := hm.gens
          have e2 : t3 = s.drawn := hm.drawn
          have e3 : t5 = s.os := hm.os
          subst e1 e2 e3
          show wpAny _ _ _ _ _ _
          refine wpAny_pure ?_
          show wpAny _ _ (ret Value.none) _ _ _
          refine wpAny_pure ⟨rfl, t1, t4, c2, rfl, hS2, by omega, fun b o e => ?_⟩
          have hb0 : b < s.heap.objs.size := Heap.lt_size e
          refine hm.heap b o (fun z => ?_) (Heap.get?_push_of_some _ (Heap.get?_push_of_some _ e))
          rcases List.mem_cons.1 z with z | z
          · exact absurd z (Nat.ne_of_lt hb0)
          · have z := List.mem_singleton.1 z
            rw [hsp] at z
            exact absurd z (Nat.ne_of_lt (Nat.lt_succ_of_lt hb0))
      · cases r2 with
        | error e => exact hr2
        | ok fl2 =>
          cases fl2 with
          | ret r =>
            obtain ⟨rfl, H2, tk, c2, rfl, hS2, hc2, keep⟩ := hr2
            repeat (any_goals (first | assumption | wp_step))
            exact fin _ _ _ hS2 hc2 keep
          | _ => exact hr2.elim
    | _ => exact hr.elim
end
section
variable {X : Cx}
def rSetL (K : PySem.W.Frag) (w : World) : List V → Hp → VK → Prop := fun vs H Q => ∃ (l : Addr) (zs : List Int), vs = [V.ref l] ∧ SqL K H l (zs.map V.int) ∧ zs.length ≤ 4000 ∧ ∀ p c, H p = none → c ≤ zs.length → (∃ ks : List Int, ks.Nodup ∧ (∀ k, k ∈ ks ↔ k ∈ zs) ∧ ks.length = c) → Q (.ref p) (upd H p (SetO w p (fun j => decide (j ∈ zs)) c))
theorem cr_setL (hc : X.calm = true) : CallR X (.type "set") (rSetL X.K X.w) := by
  intro pins s σ H vs us Q I r h
  obtain ⟨l, zs, rfl, hq, hl, q⟩ := h
  rw [Vals.ref1 r]
  obtain ⟨its, rr, pl, hz⟩ := I.list hq
  refine call_set_lst zs (I.ok.hd hc) pl.isList (by simpa using RZ.intsAre_vals rr) (by unfold scanBound; omega) fun H2 tk c R hcn k => ?_
  refine ⟨.ref _, upd H s.heap.objs.size (SetO X.w s.heap.objs.size (fun j => decide (j ∈ zs)) c), I.laid (t' := tk) (fun b u e => k b u e) (Nat.le_refl _) (setO_new R), rfl, q _ c (I.hok.fresh (Nat.le_refl _)) hcn ?_⟩
  obtain ⟨o, es, ep, t, ho, hex, hd, g, nd, hm, hb, hf, hn, _⟩ := R
  exact ⟨es.toList.map keyOf, nd, fun k => by rw [← hm k]; simp, by rw [List.length_map, Array.length_toList]; exact hn⟩
end
section
variable {Z : Cz} {X : Cx} {e : Expr} {te : DT} {p p2 q1 q2 : Pos}
def isNs (x : PV) (zs : List Int) : Pd := fun n => x = .lst (zs.map .int) ∨ ∃ k, x = .box k ∧ n.isL k (zs.map .int)
def gSortSet : G1 := fun x Q n => ∃ zs : List Int, isNs x zs n ∧ zs.length < 64 ∧ ∀ ms : List Int, ms.Pairwise (· < ·) → (∀ k, k ∈ ms ↔ k ∈ zs) → Q (.lst (ms.map .int)) n
theorem isNs_sq {W : Wd} {H : Hp} {x : PV} {v : V} {zs : List Int} (s : Same W.F H) (b : BoxOk Z.P X.K W H) (h : isNs x zs W.c) (r : Rep Z.P X.K W x v) : ∃ l, v = .ref l ∧ SqL X.K H l (zs.map V.int) := by
  rcases h with rfl | ⟨k, rfl, hk⟩
  · rw [rep_lst] at r
    obtain ⟨a, ys, rfl, h1, l⟩ := r
    have e := ints?_rep (ints?_map zs) l
    subst e
    exact ⟨a, rfl, SqL.of (s _ _ h1)⟩
  · obtain ⟨a, ys, rfl, _, h1, l⟩ := box_lst b r hk
    have e := ints?_rep (ints?_map zs) l
    subst e
    exact ⟨a, rfl, SqL.of h1⟩
theorem de_sortSet (hm : X.mg "sorted" = none) (hm2 : X.mg "set" = none) (hc : X.calm = true) (he : DE Z X e te) (hg : Gl X "sorted" := by rfl) (hg2 : Gl X "set" := by rfl)
    (hs : starEach [e] X.env = (false, eval e X.env) :: starEach [] X.env := by rfl) (hs2 : starEach [.Call (.Name "set" p2) [e] [] q2] X.env = (false, eval (.Call (.Name "set" p2) [e] [] q2) X.env) :: starEach [] X.env := by rfl) :
    DE Z X (.Call (.Name "sorted" p) [.Call (.Name "set" p2) [e] [] q2] [] q1) (dUn gSortSet te) := by
  have gm : MonoG1 gSortSet := fun x Q Q' n hq ⟨zs, h1, h2, q⟩ => ⟨zs, h1, h2, fun ms a b => hq _ _ (q ms a b)⟩
  refine ⟨dUn_mono gm he.mono, PE.weak (pe_callB (cr_sortedSet hc) hg hm bt_sorted (pa_cons (pe_callTy (cr_setL hc) hg2 hm2 PyProof.Rows.boot_set (pa_cons he.run pa_nil hs) (he := hs)) pa_nil hs2) (he := hs2)) fun σ H Q q => ?_⟩
  obtain ⟨W, ρ, S, q⟩ := q
  refine ⟨W, ρ, S, he.mono ρ _ _ _ (fun x n q v W1 H1 f1 c1 r1 => ?_) q⟩
  subst c1
  obtain ⟨zs, h1, h2, q⟩ := q
  obtain ⟨l, rfl, hq⟩ := isNs_sq f1.sub f1.box h1 r1
  refine ⟨l, zs, rfl, hq, by omega, fun a c ha hcn _ => ⟨a, _, c, rfl, upd_same, by omega, fun ms b pw hm3 hl hb => ?_⟩⟩
  have f2 := Fr0.new (o := SetO X.w a (fun j => decide (j ∈ zs)) c) f1.sub f1.box ha
  exact q ms pw (fun k => by rw [hm3 k]; simp) _ _ _ ((f1.trans f2).trans (Fr0.new f2.sub f2.box hb)) rfl (rep_newL hb f2.sub (repL_of_ints ms))
end
section
variable {Q : PV → Pd} {n : Ck} {x : PV} {l : List Nat} {k : Nat}
theorem isNs_l : isNs (.lst (nl l)) (l.map fun b : Nat => (b : Int)) n := .inl (by rw [nl_ints])
theorem ints_back {ms : List Int} (h : ∀ k, k ∈ ms ↔ k ∈ l.map fun b : Nat => (b : Int)) : ms = (ms.map Int.toNat).map (fun b : Nat => (b : Int)) ∧ ∀ k, k ∈ ms.map Int.toNat ↔ k ∈ l := by
  constructor
  · rw [List.map_map]
    conv => lhs; rw [← List.map_id ms]
    refine List.map_congr_left fun i hi => ?_
    obtain ⟨b, _, rfl⟩ := List.mem_map.1 ((h i).1 hi)
    simp
  · intro k
    constructor
    · intro hk
      obtain ⟨z, hz, rfl⟩ := List.mem_map.1 hk
      obtain ⟨b, hb, rfl⟩ := List.mem_map.1 ((h z).1 hz)
      simpa using hb
    · intro hk
      exact List.mem_map.2 ⟨(k : Int), (h _).2 (List.mem_map.2 ⟨k, hk, rfl⟩), by simp⟩
theorem r_sortSetG (hx : isNs x (l.map fun b : Nat => (b : Int)) n) (hl : l.length < 64) (q : ∀ m : List Nat, m.Pairwise (· < ·) → (∀ k, k ∈ m ↔ k ∈ l) → Q (.lst (nl m)) n) : gSortSet x Q n := by
  refine ⟨_, hx, by rw [List.length_map]; exact hl, fun ms pw hm => ?_⟩
  obtain ⟨e, hm2⟩ := ints_back hm
  have pw2 : (ms.map Int.toNat).Pairwise (· < ·) := by
    have pw := pw
    rw [e, List.pairwise_map] at pw
    exact pw.imp fun h => by omega
  have := q _ pw2 hm2
  rw [nl_ints, ← e] at this
  exact this
end
end DL
set_option maxRecDepth 100000
set_option maxHeartbeats 1000000
namespace DL
open PySem L2
section
variable {Z : Cz} {X : Cx} {P : Par} {K : PySem.W.Frag} {W : Wd} {H : Hp} {o : Expr} {to : DT} {apos cpos : Pos}
end
end DL
set_option maxRecDepth 100000
set_option maxHeartbeats 1000000
namespace DL
open PySem L2 PyProof.Rows
def pickS {α : Type} (k : Int) (xs : List α) : List α := (PySem.sliceRange (PySem.sliceBounds none none (some k) xs.length).1 (PySem.sliceBounds none none (some k) xs.length).2.1 (PySem.sliceBounds none none (some k) xs.length).2.2).filterMap fun i => xs[i]?
theorem pairAt {α β : Type} {R : α → β → Prop} : ∀ {xs : List α} {ys : List β}, Paired R xs ys → ∀ i : Nat, (xs[i]? = none ∧ ys[i]? = none) ∨ ∃ x y, xs[i]? = some x ∧ ys[i]? = some y ∧ R x y
  | _, _, .nil, i => .inl ⟨rfl, rfl⟩
  | _, _, .cons r _, 0 => .inr ⟨_, _, rfl, rfl, r⟩
  | _, _, .cons _ l, i + 1 => pairAt l i
theorem pairPick {α β : Type} {R : α → β → Prop} {xs : List α} {ys : List β} (h : Paired R xs ys) : ∀ ps : List Nat, Paired R (ps.filterMap fun i => xs[i]?) (ps.filterMap fun i => ys[i]?)
  | [] => .nil
  | p :: ps => by
    rcases pairAt h p with ⟨e1, e2⟩ | ⟨x, y, e1, e2, r⟩
    · rw [List.filterMap_cons_none e1, List.filterMap_cons_none e2]; exact pairPick h ps
    · rw [List.filterMap_cons_some e1, List.filterMap_cons_some e2]; exact .cons r (pairPick h ps)
section
variable {Z : Cz} {X : Cx} {e : Expr} {te : DT} {pos p2 : Pos}
theorem pickS_rep {P : Par} {K : PySem.W.Frag} {W : Wd} {k : Int} {xs : List PV} {ys : List V} (l : RepL P K W xs ys) : RepL P K W (pickS k xs) (pickS k ys) := by
  have hl := l.length
  unfold pickS
  rw [hl]
  generalize PySem.sliceRange _ _ _ = ps
  induction ps with
  | nil => exact RepL.nil
  | cons i ps ih =>
    cases e : xs[i]? with
    | none =>
      have e2 : ys[i]? = none := by
        rw [List.getElem?_eq_none_iff] at e ⊢
        omega
      rw [List.filterMap_cons_none e, List.filterMap_cons_none e2]; exact ih
    | some x =>
      obtain ⟨v, e2, r⟩ := l.get e
      rw [List.filterMap_cons_some e, List.filterMap_cons_some e2]
      exact RepL.cons r ih
theorem pickS_vals {k : Int} {xs : List V} {its : List Value} (r : Vals xs its) : Vals (pickS k xs) (PySem.slicePick its.toArray none none (some k)).toList := by
  unfold pickS PySem.slicePick
  rw [List.size_toArray, r.length]
  have h := pairPick r (PySem.sliceRange (PySem.sliceBounds none none (some k) its.length).1 (PySem.sliceBounds none none (some k) its.length).2.1 (PySem.sliceBounds none none (some k) its.length).2.2)
  simpa using h
def gSlS (k : Int) : PV → (PV → Pd) → Pd := fun x Q n => ∃ xs : List PV, (x = .lst xs ∨ x = .scr xs) ∧ Q (.lst (pickS k xs)) n
def rSlS (P : Par) (K : PySem.W.Frag) (k : Int) : V → Hp → VK → Prop := fun v H Q => ∃ W x, Same W.F H ∧ BoxOk P K W H ∧ Rep P K W x v ∧ gSlS k x (Tell P K W H Q) W.c
theorem getS {k : Int} (hk : k ≠ 0) {pins : List (Addr × Obj)} {s : Shared} {σ : L2.St} {H : Hp} {x : V} {v : Value} {sl : Addr} {vs : Value} {Q : VK} (I : Inv X pins σ H s) (rx : RelV x v) (hs : s.heap.IsSliceOf sl .none .none vs) (ps : IsPart vs (some k)) (q : rSlS Z.P X.K k x H Q) :
    ∃ T id, typeLookup (.type T) "__getitem__" = pure (some (.builtin id)) ∧ s.TypeIs v T ∧ wpAny (model X.prog X.w) X.A (getItem v (.ref sl)) (EP X pins σ Q) X.xe s := by
  have key : ∀ (a : Addr) (ys : List V), x = .ref a → SqL X.K H a ys → (∀ p, H p = none → Q (.ref p) (upd H p (.lst (pickS k ys)))) → ∃ T id, typeLookup (.type T) "__getitem__" = pure (some (.builtin id)) ∧ s.TypeIs v T ∧ wpAny (model X.prog X.w) X.A (getItem v (.ref sl)) (EP X pins σ Q) X.xe s := fun a ys ex hx q9 => by
    subst ex
    cases rx
    obtain ⟨its, r, ht, hz⟩ := I.list hx
    have hlen := r.length
    refine ⟨"list", _, slot_list_getitem.lookup, ht.isList.typeIs, ?_⟩
    refine wpAny_getItem_list_slice ht.isList hs .none .none ps (fun e => hk (Option.some.inj e)) ?_ (by rw [List.size_toArray] <;> omega)
    have hv := pickS_vals (k := k) r
    have hsz := slicePick_size_le its.toArray none none (some k)
    have hits : its.toArray.size = its.length := List.size_toArray ..
    refine ⟨.ref s.heap.objs.size, _, I.laid (t' := s.toks) (o := .lst (pickS k ys)) (fun b ob q => Heap.get?_push_of_some _ q) (Nat.le_refl _) ?_, rfl, q9 _ (I.hok.fresh (Nat.le_refl _))⟩
    have hl2 : (pickS k ys).length = (PySem.slicePick its.toArray none none (some k)).size := hv.length.trans (Array.length_toList ..)
    exact ⟨by omega, _, 0, hv, by simpa using Heap.get?_push_size _ rfl⟩
  obtain ⟨W, p, s1, b1, r1, xs, hx, q⟩ := q
  rcases hx with rfl | rfl
  · rw [rep_lst] at r1
    obtain ⟨a, ys, rfl, h1, l⟩ := r1
    exact key a ys rfl (SqL.of (s1 _ _ h1)) (Tell.fresh q s1 b1 fun p n => rep_newL n s1 (pickS_rep l))
  · rw [rep_scr] at r1
    obtain ⟨a, ys, rfl, h1, l⟩ := r1
    exact key a ys rfl (sqL_same s1 h1) (Tell.fresh q s1 b1 fun p n => rep_newL n s1 (pickS_rep l))
theorem pe_sliceS {k : Int} {es : Expr} {pe : TE} (hk : k ≠ 0) (he : PE X e pe) (hst : PO X (some es) (tPart fun σ H Q => Q (.int k) H)) (hsub : ∀ v r, subscripted (.Slice none none (some es) p2) false v r = operate [v, r] (getItem v r)) : PE X (.Subscript e (.Slice none none (some es) p2) pos) (fun σ H Q => pe σ H fun x H1 => rSlS Z.P X.K k x H1 Q) := by
  refine ⟨fun pins s σ H Q I h => ?_⟩
  refine Subscript_ (thn (he.run pins s σ H _ I h) fun v s1 ⟨x, H1, I1, r1, q1⟩ => ?_)
  refine wpAny_Slice ?_
  rw [evalPart_none]
  refine wpAny_pure (wpAny_pure (thn (hst.run pins s1 σ H1 (fun o H' => o = some k ∧ H' = H1) I1 ⟨k, rfl, rfl, rfl⟩) fun vs s3 ⟨o, H3, I3, ps, eo, eH⟩ => ?_))
  subst eo eH
  have I4 : Inv X pins σ H3 { s3 with heap := s3.heap.push { cls := .type "slice", data := .fields #[.none, .none, vs] } } := I3.kept (t' := s3.toks) fun b ob q => Heap.get?_push_of_some _ q
  obtain ⟨T, id, hT, ht, hg⟩ := getS hk I4 r1 (Heap.IsSliceOf.new ..) ps q1
  show wpAny (model X.prog X.w) X.A (subscriptTail e (.Slice none none (some es) p2) v (.ref s3.heap.objs.size)) (EP X pins σ Q) X.xe { s3 with heap := s3.heap.push { cls := .type "slice", data := .fields #[.none, .none, vs] } }
  exact tail_any (ops := [v, .ref s3.heap.objs.size]) ht hT hg (hsub v (Value.ref s3.heap.objs.size))
def dSlS (k : Int) (te : DT) : DT := fun ρ Q => te ρ fun x => gSlS k x Q
theorem de_sliceS {i : Int} {kd : Nat} {cp : Pos} (hi : i ≠ 0) (he : DE Z X e te) (hst : PO X (some (.Constant (.int i) kd cp)) (tPart fun σ H Q => Q (.int i) H) := by exact po_some pe_int)
    (hsub : ∀ v r, subscripted (.Slice none none (some (.Constant (.int i) kd cp)) p2) false v r = operate [v, r] (getItem v r) := by intros; with_unfolding_all rfl) :
    DE Z X (.Subscript e (.Slice none none (some (.Constant (.int i) kd cp)) p2) pos) (dSlS i te) := by
  refine ⟨fun ρ Q Q' n hq q => he.mono ρ _ _ _ (fun x n ⟨xs, h, q⟩ => ⟨xs, h, hq _ _ q⟩) q, PE.weak (pe_sliceS (Z := Z) hi he.run hst hsub) fun σ H Q q => ?_⟩
  obtain ⟨W, ρ, S, q⟩ := q
  refine ⟨W, ρ, S, he.mono ρ _ _ _ (fun x n q v W1 H1 f1 c1 r1 => ?_) q⟩
  obtain ⟨xs, hx, q⟩ := q
  exact ⟨W1, x, f1.sub, f1.box, r1, xs, hx, fun v W4 H4 f4 c4 r4 => q v W4 H4 (f1.trans f4) (c4.trans c1) r4⟩
theorem o_slS {k : Int} {ρ : Rho} {Q : PV → Pd} {n : Ck} (h : te ρ (fun x => gSlS k x Q) n) : dSlS k te ρ Q n := h
theorem pickS_map {α : Type} {f : α → PV} {k : Int} {l : List α} : pickS k (l.map f) = (pickS k l).map f := by
  unfold pickS
  rw [List.length_map, List.map_filterMap]
  refine congrArg (fun g => List.filterMap g _) (funext fun i => ?_)
  rw [List.getElem?_map]
theorem r_slS {α : Type} {f : α → PV} {k : Int} {l : List α} {x : PV} {Q : PV → Pd} {n : Ck} (h : x = .lst (l.map f) ∨ x = .scr (l.map f)) (q : Q (.lst ((pickS k l).map f)) n) : gSlS k x Q n := ⟨l.map f, h, by rw [pickS_map]; exact q⟩
theorem pickS_le {α : Type} {k : Int} {xs : List α} : (pickS k xs).length ≤ xs.length := by
  have h := PySem.slicePick_size_le (xs.map fun _ => Value.none).toArray none none (some k)
  have hs : ((xs.map fun _ => Value.none).toArray).size = xs.length := by rw [List.size_toArray, List.length_map]
  have e : (PySem.slicePick (xs.map fun _ => Value.none).toArray none none (some k)).size = (pickS k xs).length := by
    unfold PySem.slicePick pickS
    rw [hs]
    rw [List.size_toArray]
    generalize PySem.sliceRange _ _ _ = ps
    have := congrArg List.length (List.map_filterMap (f := fun i : Nat => xs[i]?) (g := fun _ : α => Value.none) (l := ps))
    rw [List.length_map] at this
    rw [this]
    refine congrArg (fun g => (List.filterMap g ps).length) (funext fun i => ?_)
    simp
  omega
end
end DL
set_option maxRecDepth 100000
set_option maxHeartbeats 1000000
namespace DL
open PySem L2
section
variable {Z : Cz} {X : Cx} {P : Par} {K : PySem.W.Frag} {W : Wd} {H : Hp} {o e : Expr} {to te : DT} {apos cpos : Pos}
def xCountL (x y : PV) (Q : PV → Pd) : Pd := fun n => ∃ (ns : List Int) (k : Int), x = .lst (ns.map .int) ∧ y = .int k ∧ Q (.int (ns.count k : Nat)) n
def dCountL (to te : DT) : DT := fun ρ Q => to ρ fun x n => (∃ ns : List Int, x = .lst (ns.map .int)) ∧ te ρ (fun y => xCountL x y Q) n
theorem ints_rep : ∀ {ns : List Int} {vs : List V}, RepL P K W (ns.map .int) vs → vs = ns.map V.int
  | [], vs, r => by rw [List.map_nil] at r; exact List.eq_nil_of_length_eq_zero r.length.symm
  | k :: ns, vs, r => by
    rw [List.map_cons] at r
    simp only [RepL] at r
    obtain ⟨v, us, rfl, r1, r2⟩ := r
    rw [rep_int] at r1
    rw [r1, ints_rep r2]; rfl
theorem de_count (ho : DE Z X o to) (he : DE Z X e te) (hbase : attributeBase o "count" X.env (eval o X.env) = eval o X.env := by rfl)
    (hfew : ((backTo cpos (starEach [e] X.env)).all (fun x => !x.1) && (backToKw cpos (keywordEach [] X.env)).all (fun x => x.1.isSome)
      && decide (([e] : List Expr).length + ([] : List Keyword).length + (if ([] : List Keyword).isEmpty then 0 else 1) < 30)) = true := by rfl)
    (hline : (apos.endLine == cpos.line) = true := by rfl) (hs : starEach [e] X.env = (false, eval e X.env) :: starEach [] X.env := by rfl) (hplain : (backTo cpos (starEach [] X.env)).any (·.1) = false := by rfl) :
    DE Z X (.Call (.Attribute o "count" apos) [e] [] cpos) (dCountL to te) := by
  have hA : DAs Z X [e] (dCons te dNil) := da_cons he da_nil hs
  refine ⟨fun ρ Q Q' n hq q => ho.mono ρ _ _ n (fun x n q => ⟨q.1, he.mono ρ _ _ n (fun y n q => let ⟨ns, k, a, b, q⟩ := q; ⟨ns, k, a, b, hq _ _ q⟩) q.2⟩) q,
    PE.weak (pe_bm PySem.F.plainAttrs_list PySem.F.slot_list_count PySem.F.type_list_count mt_lcount ho.run hA.run hbase hfew hline hs hplain) fun σ H Q q => ?_⟩
  obtain ⟨W, ρ, S, q⟩ := q
  refine ⟨W, ρ, S, ho.mono ρ _ _ _ (fun x n q v W1 H1 f1 c1 r1 => ?_) q⟩
  subst c1
  obtain ⟨⟨ns0, rfl⟩, q⟩ := q
  rw [rep_lst] at r1
  obtain ⟨a, ys, rfl, h1, l⟩ := r1
  have hy := ints_rep l
  subst hy
  refine ⟨Or.inl ⟨rfl, _, SqL.of (f1.sub _ _ h1)⟩, W1, ρ, S.step f1, he.mono ρ _ _ _ (fun p n q vs W2 H2 f2 c2 r2 => ?_) q⟩
  subst c2
  obtain ⟨v, rfl, r⟩ := r2.one
  obtain ⟨ns, k, e1, rfl, q⟩ := q
  have e1 : ns0 = ns := by
    injection e1 with e1
    exact List.map_inj_right (fun a b h => by injection h) |>.1 e1
  subst e1
  rw [rep_int] at r
  subst r
  exact ⟨a, ns0, k, rfl, rfl, SqL.of (f2.sub _ _ (f2.le.1 _ _ h1)), q _ W2 H2 (f1.trans f2) rfl (rep_int.2 rfl)⟩
theorem o_countL {ρ : Rho} {Q : PV → Pd} {n : Ck} (h : to ρ (fun x n => (∃ ns : List Int, x = .lst (ns.map .int)) ∧ te ρ (fun y => xCountL x y Q) n) n) : dCountL to te ρ Q n := h
theorem r_count0 {ns : List Nat} {A : Pd} {n : Ck} (h : A n) : (∃ zs : List Int, PV.lst (nl ns) = .lst (zs.map .int)) ∧ A n := ⟨⟨ns.map fun b : Nat => (b : Int), by rw [List.map_map]; rfl⟩, h⟩
theorem cnt_ints {ns : List Nat} {k : Nat} : (ns.map fun b : Nat => (b : Int)).count (k : Int) = ns.count k := by
  induction ns with
  | nil => rfl
  | cons a ns ih =>
    rw [List.map_cons, List.count_cons, List.count_cons, ih]
    by_cases h : a = k
    · subst h; simp
    · have h2 : ¬ ((a : Int) = (k : Int)) := fun z => h (Int.ofNat.inj z)
      simp [h, h2]
theorem r_countL {ns : List Nat} {k : Nat} {Q : PV → Pd} {n : Ck} (q : Q (.int (ns.count k : Nat)) n) : xCountL (.lst (nl ns)) (.int (k : Nat)) Q n :=
  ⟨ns.map fun b : Nat => (b : Int), k, by rw [List.map_map]; rfl, rfl, by rw [cnt_ints]; exact q⟩
end
end DL
set_option maxRecDepth 100000
namespace GF
def Irr (f : Nat) : Prop := 2 ≤ bl f ∧ ∀ a b, f = cm a b → a = 1 ∨ b = 1
theorem Irr.ne {f : Nat} (h : Irr f) : f ≠ 0 := fun z => by have := h.1; rw [z, bl_zero] at this; omega
theorem Irr.gc {f a : Nat} (h : Irr f) (ha : ¬ dvd f a) : gc f a = 1 := by
  obtain ⟨u, hu⟩ := gc_l f a
  rcases h.2 u (GF.gc f a) hu with e | e
  · exfalso
    rw [e, cm_one_l] at hu
    exact ha (by rw [hu]; exact gc_r f a)
  · exact e
theorem Irr.prime {f a b : Nat} (h : Irr f) (d : dvd f (cm a b)) : dvd f a ∨ dvd f b := by
  by_cases c : dvd f a
  · exact .inl c
  · exact .inr (dvd_of_gc_one (h.gc c) d)
theorem inv_mod {a m : Nat} (hm : 2 ≤ bl m) (h : GF.gc a m = 1) : ∃ s, rm (cm s a) m = 1 := by
  have m0 : m ≠ 0 := fun z => by rw [z, bl_zero] at hm; omega
  obtain ⟨s, t, _, _, e⟩ := gc_spec a m
  rw [h] at e
  refine ⟨s, ?_⟩
  have e2 : cm s a = cm t m ^^^ 1 := by
    have a1 := Po.to e
    apply Po.of
    simp only [Po.mk_xor, Po.mk_cm] at *
    grind
  rw [e2, rm_mul m0]
  exact (rm_small (by have : bl 1 = 1 := (by decide); omega)).1
def prd (l : List Nat) : Nat := l.foldr cm 1
theorem prd_perm {l l' : List Nat} (h : l.Perm l') : prd l = prd l' := by
  induction h with
  | nil => rfl
  | cons x _ ih => show cm x _ = cm x _; exact congrArg (cm x) ih
  | swap x y l =>
    show cm y (cm x (prd l)) = cm x (cm y (prd l))
    rw [← cm_assoc, cm_comm y x, cm_assoc]
  | trans _ _ h1 h2 => exact h1.trans h2
def pwo (a : Nat) : Nat → Nat
  | 0 => 1
  | n + 1 => cm (pwo a n) a
theorem prd_map (a m : Nat) (hm : m ≠ 0) : ∀ l : List Nat, rm (prd (l.map fun x => rm (cm a x) m)) m = rm (cm (pwo a l.length) (prd l)) m
  | [] => by show rm 1 m = rm (cm 1 1) m; rw [cm_one]
  | x :: l => by
    show rm (cm (rm (cm a x) m) (prd (l.map fun x => rm (cm a x) m))) m = rm (cm (cm (pwo a l.length) a) (cm x (prd l))) m
    rw [rm_cm_l hm, ← rm_cm hm, prd_map a m hm l, rm_cm hm]
    congr 1
    apply Po.of
    simp only [Po.mk_cm]
    grind
theorem prd_unit {m : Nat} (h : Irr m) : ∀ l : List Nat, (∀ x ∈ l, ¬ dvd m x) → ¬ dvd m (prd l)
  | [], _ => fun d => by
    have := dvd_bl d (by decide)
    have h1 := h.1
    have : bl (prd []) = 1 := (by decide)
    omega
  | x :: l, hl => fun d => by
    rcases h.prime d with e | e
    · exact hl x (List.mem_cons_self ..) e
    · exact prd_unit h l (fun y hy => hl y (List.mem_cons_of_mem _ hy)) e
def unl (m : Nat) : List Nat := List.range' 1 (2 ^ (bl m - 1) - 1)
theorem mem_unl {m x : Nat} (hm : 1 ≤ bl m) : x ∈ unl m ↔ x ≠ 0 ∧ bl x < bl m := by
  have h2 := Nat.two_pow_pos (bl m - 1)
  unfold unl
  rw [List.mem_range'_1]
  have : bl x < bl m ↔ x < 2 ^ (bl m - 1) := by
    rw [← bl_lt_iff]; omega
  rw [this]; omega
theorem unl_nodup (m : Nat) : (unl m).Nodup := List.nodup_range' ..
theorem unl_dvd {m x : Nat} (hm : 1 ≤ bl m) (h : x ∈ unl m) : ¬ dvd m x := fun d => by
  obtain ⟨h0, h1⟩ := (mem_unl hm).1 h
  have := dvd_bl d h0
  omega
theorem perm_mul {a m : Nat} (h : Irr m) (ha : ¬ dvd m a) : ((unl m).map fun x => rm (cm a x) m).Perm (unl m) := by
  have m0 := h.ne
  have hb := h.1
  obtain ⟨s, hs⟩ := inv_mod hb (by rw [gc_comm]; exact h.gc ha)
  have into : ∀ c, ¬ dvd m c → ∀ x, x ∈ unl m → rm (cm c x) m ∈ unl m := fun c hc x hx => by
    refine (mem_unl (by omega)).2 ⟨fun z => ?_, rm_lt m0⟩
    rcases h.prime ((rm_eq_zero m0).1 z) with e | e
    · exact hc e
    · exact unl_dvd (by omega) hx e
  have back : ∀ c d, rm (cm c d) m = 1 → ∀ x, x ∈ unl m → rm (cm c (rm (cm d x) m)) m = x := fun c d e x hx => by
    rw [cm_comm, rm_cm_l m0, show cm (cm d x) c = cm (cm c d) x from by
      apply Po.of; simp only [Po.mk_cm]; grind, ← rm_cm_l m0, e, cm_one_l]
    exact (rm_small ((mem_unl (by omega)).1 hx).2).1
  have hs0 : ¬ dvd m s := fun d => by
    have := (rm_eq_zero m0).2 (dvd_cm' a d)
    rw [hs] at this; cases this
  have hsa : rm (cm a s) m = 1 := by rw [cm_comm]; exact hs
  have nd : ((unl m).map fun x => rm (cm a x) m).Nodup := by
    have : ∀ l : List Nat, l.Nodup → (∀ x ∈ l, x ∈ unl m) → (l.map fun x => rm (cm a x) m).Nodup := fun l => by
      induction l with
      | nil => intro _ _; exact List.nodup_nil
      | cons y l ih =>
        intro hn hl
        obtain ⟨n1, n2⟩ := List.nodup_cons.1 hn
        rw [List.map_cons, List.nodup_cons]
        refine ⟨fun hm2 => ?_, ih n2 fun x hx => hl x (List.mem_cons_of_mem _ hx)⟩
        obtain ⟨x, hx, e⟩ := List.mem_map.1 hm2
        have e1 := back s a hs x (hl x (List.mem_cons_of_mem _ hx))
        have e2 := back s a hs y (hl y (List.mem_cons_self ..))
        have : x = y := by rw [← e1, ← e2, e]
        exact n1 (this ▸ hx)
    exact this _ (unl_nodup m) fun x hx => hx
  rw [List.perm_iff_count]
  intro x
  rw [nd.count, (unl_nodup m).count]
  have : x ∈ ((unl m).map fun x => rm (cm a x) m) ↔ x ∈ unl m := by
    constructor
    · intro hx
      obtain ⟨y, hy, rfl⟩ := List.mem_map.1 hx
      exact into a ha y hy
    · intro hx
      exact List.mem_map.2 ⟨rm (cm s x) m, into s hs0 x hx, back a s hsa x hx⟩
  by_cases c : x ∈ unl m
  · rw [if_pos c, if_pos (this.2 c)]
  · rw [if_neg c, if_neg fun z => c (this.1 z)]
theorem fermat {a m : Nat} (h : Irr m) (ha : ¬ dvd m a) : rm (pwo a (2 ^ (bl m - 1) - 1)) m = 1 := by
  have m0 := h.ne
  have e := prd_map a m m0 (unl m)
  rw [prd_perm (perm_mul h ha), show (unl m).length = 2 ^ (bl m - 1) - 1 from List.length_range' ..] at e
  have hp := prd_unit h (unl m) fun x hx => unl_dvd (by have := h.1; omega) hx
  obtain ⟨s, hs⟩ := inv_mod h.1 (by rw [gc_comm]; exact h.gc hp)
  have e2 : rm (cm (prd (unl m)) s) m = rm (cm (cm (pwo a (2 ^ (bl m - 1) - 1)) (prd (unl m))) s) m := by
    rw [← rm_cm_l m0, e, rm_cm_l m0]
  rw [cm_comm, hs, cm_assoc, cm_comm (pwo a _), ← rm_cm_l m0, cm_comm (prd (unl m)) s, hs, cm_one_l] at e2
  exact e2.symm
end GF
set_option maxRecDepth 100000
namespace GF
theorem pwo_add (a m : Nat) : ∀ n, pwo a (m + n) = cm (pwo a m) (pwo a n)
  | 0 => by rw [pwo, cm_one, Nat.add_zero]
  | n + 1 => by rw [← Nat.add_assoc, pwo, pwo_add a m n, pwo, cm_assoc]
theorem pwo_mul (a m : Nat) : ∀ n, pwo a (m * n) = pwo (pwo a m) n
  | 0 => rfl
  | n + 1 => by rw [Nat.mul_succ, pwo_add, pwo_mul a m n, pwo]
theorem pwo_one (a : Nat) : pwo a 1 = a := by rw [pwo, pwo, cm_one_l]
theorem one_pwo : ∀ n, pwo 1 n = 1
  | 0 => rfl
  | n + 1 => by rw [pwo, one_pwo n, cm_one]
theorem pwo_two : ∀ n, pwo 2 n = 2 ^ n
  | 0 => rfl
  | n + 1 => by
    rw [pwo, pwo_two n, cm_comm, show (2 : Nat) ^ n = 1 * 2 ^ n by rw [Nat.one_mul]]
    rw [Nat.one_mul, cm_pow, Nat.mul_comm, Nat.pow_succ]
theorem pwo_ne {a : Nat} (h : a ≠ 0) : ∀ n, pwo a n ≠ 0
  | 0 => (by decide : (1 : Nat) ≠ 0)
  | n + 1 => cm_ne (pwo_ne h n) h
theorem pwo_cm (a b : Nat) : ∀ n, pwo (cm a b) n = cm (pwo a n) (pwo b n)
  | 0 => by rw [pwo, pwo, pwo, cm_one]
  | n + 1 => by
    rw [pwo, pwo_cm a b n, pwo, pwo]
    apply Po.of; simp only [Po.mk_cm]; grind
def One (q n : Nat) : Prop := dvd q (pwo 2 n ^^^ 1)
theorem one_rm {q n : Nat} (h : q ≠ 0) : One q n ↔ rm (pwo 2 n) q = rm 1 q := by
  unfold One
  rw [← rm_eq_zero h, rm_xor h, xor_zero_iff]
theorem one_zero (q : Nat) : One q 0 := by
  show dvd q (1 ^^^ 1)
  rw [Nat.xor_self]; exact dvd_zero q
theorem one_add {q m n : Nat} (h1 : One q m) (h2 : One q n) : One q (m + n) := by
  unfold One at *
  rw [pwo_add]
  have e : cm (pwo 2 m) (pwo 2 n) ^^^ 1 = cm (pwo 2 m) (pwo 2 n ^^^ 1) ^^^ (pwo 2 m ^^^ 1) := by
    apply Po.of; simp only [Po.mk_xor, Po.mk_cm, Po.mk_one]; grind
  rw [e]
  exact dvd_xor (dvd_cm _ h2) h1
theorem one_mul {q m : Nat} (h : One q m) : ∀ k, One q (m * k)
  | 0 => one_zero q
  | k + 1 => by rw [Nat.mul_succ]; exact one_add (one_mul h k) h
theorem one_sub {q m n : Nat} (hq : GF.gc 2 q = 1) (h1 : One q (m + n)) (h2 : One q n) : One q m := by
  unfold One at *
  rw [pwo_add] at h1
  have e : cm (pwo 2 n) (pwo 2 m ^^^ 1) = (cm (pwo 2 m) (pwo 2 n) ^^^ 1) ^^^ (pwo 2 n ^^^ 1) := by
    apply Po.of; simp only [Po.mk_xor, Po.mk_cm, Po.mk_one]; grind
  have d : dvd q (cm (pwo 2 n) (pwo 2 m ^^^ 1)) := by rw [e]; exact dvd_xor h1 h2
  have c : ∀ k, GF.gc q (pwo 2 k) = 1 := fun k => by
    induction k with
    | zero => exact dvd_one (gc_r q 1)
    | succ k ih =>
      have h3 : dvd (GF.gc q (pwo 2 (k + 1))) (cm (pwo 2 k) 2) := gc_r q (pwo 2 (k + 1))
      have h4 : GF.gc (GF.gc q (pwo 2 (k + 1))) (pwo 2 k) = 1 := by
        refine dvd_one ?_
        have := gc_max (a := q) (b := pwo 2 k) (d := GF.gc (GF.gc q (pwo 2 (k + 1))) (pwo 2 k)) (dvd_trans (gc_l _ _) (gc_l q _)) (gc_r _ _)
        rwa [ih] at this
      have h5 := dvd_of_gc_one h4 h3
      refine dvd_one ?_
      have := gc_max (a := 2) (b := q) h5 (gc_l q _)
      rwa [hq] at this
  exact dvd_of_gc_one (c n) d
theorem one_gcd {q : Nat} (hq : GF.gc 2 q = 1) : ∀ k m n, m + n ≤ k → One q m → One q n → One q (Nat.gcd m n) := by
  intro k
  induction k with
  | zero => intro m n h h1 h2; rw [show m = 0 by omega, show n = 0 by omega]; exact one_zero q
  | succ k ih =>
    intro m n h h1 h2
    rcases Nat.lt_trichotomy m n with c | c | c
    · by_cases m0 : m = 0
      · subst m0; rw [Nat.gcd_zero_left]; exact h2
      · have h3 : One q (n - m) := one_sub hq (n := m) (by rw [Nat.sub_add_cancel (by omega)]; exact h2) h1
        have := ih m (n - m) (by omega) h1 h3
        have e : Nat.gcd m (n - m) = Nat.gcd m n := by
          conv => rhs; rw [show n = (n - m) + m by omega]
          rw [Nat.gcd_add_self_right]
        rwa [e] at this
    · subst c; rw [Nat.gcd_self]; exact h1
    · by_cases n0 : n = 0
      · subst n0; rw [Nat.gcd_zero_right]; exact h1
      · have h3 : One q (m - n) := one_sub hq (n := n) (by rw [Nat.sub_add_cancel (by omega)]; exact h1) h2
        have := ih (m - n) n (by omega) h3 h2
        have e : Nat.gcd (m - n) n = Nat.gcd m n := by
          conv => rhs; rw [show m = (m - n) + n by omega]
          rw [Nat.gcd_add_self_left]
        rwa [e] at this
def Prm (p : Nat) : Prop := 2 ≤ p ∧ ∀ d, d ∣ p → d = 1 ∨ d = p
theorem prm_ex : ∀ (k n : Nat), n ≤ k → 2 ≤ n → ∃ p, Prm p ∧ p ∣ n := by
  intro k
  induction k with
  | zero => intro n h h2; omega
  | succ k ih =>
    intro n h h2
    by_cases c : ∃ d, d ∣ n ∧ d ≠ 1 ∧ d ≠ n
    · obtain ⟨d, hd, d1, dn⟩ := c
      have := Nat.le_of_dvd (by omega) hd
      have d0 : d ≠ 0 := fun z => by subst z; have := Nat.eq_zero_of_zero_dvd hd; omega
      obtain ⟨p, hp, hpd⟩ := ih d (by omega) (by omega)
      exact ⟨p, hp, Nat.dvd_trans hpd hd⟩
    · refine ⟨n, ⟨h2, fun d hd => ?_⟩, Nat.dvd_refl n⟩
      by_cases d1 : d = 1
      · exact .inl d1
      · exact .inr (Classical.byContradiction fun dn => c ⟨d, hd, d1, dn⟩)
theorem one_least {q N n : Nat} (hq : GF.gc 2 q = 1) (hN : 0 < N) (h : One q N) (hp : ∀ p, Prm p → p ∣ N → ¬ One q (N / p)) (hn : One q n) : N ∣ n := by
  have hg := one_gcd hq _ N n (Nat.le_refl _) h hn
  obtain ⟨k, hk⟩ := Nat.gcd_dvd_left N n
  by_cases k1 : k = 1
  · rw [k1, Nat.mul_one] at hk
    rw [hk]; exact Nat.gcd_dvd_right N n
  · exfalso
    have k0 : k ≠ 0 := fun z => by rw [z, Nat.mul_zero] at hk; omega
    obtain ⟨p, hpp, j, hj⟩ := prm_ex k k (Nat.le_refl _) (by omega)
    have p0 : 0 < p := by have := hpp.1; omega
    have e : N = p * (Nat.gcd N n * j) := by
      conv => lhs; rw [hk, hj]
      rw [← Nat.mul_assoc, ← Nat.mul_assoc, Nat.mul_comm p]
    refine hp p hpp ⟨_, e⟩ ?_
    have e2 : N / p = Nat.gcd N n * j := by
      conv => lhs; rw [e]
      exact Nat.mul_div_cancel_left _ p0
    rw [e2]
    exact one_mul hg j
end GF
set_option maxRecDepth 100000
namespace GF
theorem pwo_sq (x : Nat) : pwo x 2 = cm x x := by rw [pwo, pwo_one]
theorem frob (x y : Nat) : ∀ k, pwo (x ^^^ y) (2 ^ k) = pwo x (2 ^ k) ^^^ pwo y (2 ^ k)
  | 0 => by rw [Nat.pow_zero, pwo_one, pwo_one, pwo_one]
  | k + 1 => by
    rw [Nat.pow_succ, pwo_mul, pwo_mul, pwo_mul, frob x y k, pwo_sq, pwo_sq, pwo_sq]
    apply Po.of; simp only [Po.mk_xor, Po.mk_cm]; grind
theorem one_two {n k : Nat} : pwo 2 (n * 2 ^ k) ^^^ 1 = pwo (pwo 2 n ^^^ 1) (2 ^ k) := by
  rw [frob, one_pwo, pwo_mul]
theorem dvd_pwo {f x : Nat} (h : dvd f x) (n : Nat) : dvd (pwo f n) (pwo x n) := by
  obtain ⟨u, rfl⟩ := h
  exact ⟨pwo u n, pwo_cm u f n⟩
theorem dvd_pwo_le {f a b : Nat} (h : a ≤ b) : dvd (pwo f a) (pwo f b) := by
  obtain ⟨c, rfl⟩ := Nat.exists_eq_add_of_le h
  exact ⟨pwo f c, by rw [pwo_add, cm_comm]⟩
theorem Irr.prime_pwo {f a : Nat} (h : Irr f) : ∀ n, dvd f (pwo a n) → dvd f a
  | 0, d => by
    have := dvd_bl d (show (1 : Nat) ≠ 0 by decide)
    have h1 := h.1
    have : bl (pwo a 0) = 1 := (by decide : bl 1 = 1)
    omega
  | n + 1, d => by
    rcases h.prime d with e | e
    · exact Irr.prime_pwo h n e
    · exact e
def dv (x : Nat) : Nat := if h : x = 0 then 0 else x / 2 % 2 + 4 * dv (x / 4)
termination_by x
decreasing_by omega
theorem tb_four (a b k : Nat) (ha : a < 2) : (a + 4 * b).testBit (k + 2) = b.testBit k := by
  rw [Nat.testBit_succ, Nat.testBit_succ]
  congr 1; omega
theorem tb_dv (x : Nat) : ∀ k, (dv x).testBit k = (decide (k % 2 = 0) && x.testBit (k + 1)) := by
  induction x using Nat.strongRecOn with
  | _ x ih =>
    intro k
    rw [dv]
    by_cases h : x = 0
    · rw [dif_pos h, h]; simp
    · rw [dif_neg h]
      match k with
      | 0 =>
        rw [tb0, Nat.testBit_succ, tb0]
        have : (x / 2 % 2 + 4 * dv (x / 4)) % 2 = x / 2 % 2 := by omega
        rw [this]; simp
      | 1 =>
        rw [Nat.testBit_succ, tb0]
        have : (x / 2 % 2 + 4 * dv (x / 4)) / 2 % 2 = 0 := by omega
        rw [this]; simp
      | k + 2 =>
        rw [tb_four _ _ _ (Nat.mod_lt _ (by decide)), ih (x / 4) (by omega), show (k + 2) % 2 = k % 2 by omega, show x / 4 = x / 2 / 2 by omega, ← Nat.testBit_succ, ← Nat.testBit_succ]
theorem dv_xor (x y : Nat) : dv (x ^^^ y) = dv x ^^^ dv y := ext fun k => by
  rw [tb_dv, Nat.testBit_xor, Nat.testBit_xor, tb_dv, tb_dv]
  cases decide (k % 2 = 0) <;> simp
theorem dv_four (x : Nat) : dv (4 * x) = 4 * dv x := ext fun k => by
  rw [tb_dv]
  match k with
  | 0 =>
    have e1 : (4 * x).testBit (0 + 1) = false := by rw [Nat.testBit_succ, tb0]; simp; omega
    have e2 : (4 * dv x).testBit 0 = false := by rw [tb0]; simp; omega
    rw [e1, e2]; simp
  | 1 =>
    have e2 : (4 * dv x).testBit 1 = false := by rw [Nat.testBit_succ, tb0]; simp; omega
    rw [e2]; simp
  | k + 2 =>
    have := tb_four 0 (dv x) k (by decide)
    rw [Nat.zero_add] at this
    rw [this, tb_dv, show (k + 2) % 2 = k % 2 by omega]
    have := tb_four 0 x (k + 1) (by decide)
    rw [Nat.zero_add] at this
    rw [show k + 2 + 1 = k + 1 + 2 by omega, this]
theorem sq_split (f : Nat) : cm f f = (if f % 2 = 1 then 1 else 0) ^^^ 4 * cm (f / 2) (f / 2) := by
  by_cases h : f % 2 = 1
  · rw [if_pos h]
    have e := odd_dbl f h
    conv => lhs; rw [e]
    rw [cm_xor, cm_xor_l, cm_xor_l, cm_dbl, cm_dbl_l, cm_one, cm_one, cm_one_l, cm_dbl, cm_dbl_l]
    have e2 : 4 * cm (f / 2) (f / 2) = 2 * (2 * cm (f / 2) (f / 2)) := by omega
    rw [e2]
    apply ext; intro k
    simp only [Nat.testBit_xor]
    cases Nat.testBit 1 k <;> cases (2 * (f / 2)).testBit k <;> cases (2 * (2 * cm (f / 2) (f / 2))).testBit k <;> rfl
  · rw [if_neg h, Nat.zero_xor]
    have e := even_dbl f (by omega)
    conv => lhs; rw [e]
    rw [cm_dbl, cm_dbl_l]; omega
theorem cm_four (a b : Nat) : cm (4 * a) b = 4 * cm a b := by
  rw [show 4 * a = 2 * (2 * a) by omega, cm_dbl_l, cm_dbl_l]; omega
theorem dv_sq (h : Nat) : ∀ f, dv (cm (cm f f) h) = cm (cm f f) (dv h) := by
  intro f
  induction f using ind with
  | h0 => rw [cm_zero, cm_zero_l, cm_zero_l]; rw [dv]; simp
  | h f hf ih =>
    rw [sq_split, cm_xor_l, cm_xor_l, cm_four, cm_four, dv_xor, dv_four, ih]
    by_cases c : f % 2 = 1
    · rw [if_pos c, cm_one_l, cm_one_l]
    · rw [if_neg c, cm_zero_l, cm_zero_l]; rw [show dv 0 = 0 by rw [dv]; simp]
theorem dv_pow {m : Nat} (h : m % 2 = 1) : dv (2 ^ m ^^^ 1) = 2 ^ (m - 1) := ext fun k => by
  rw [tb_dv, Nat.testBit_xor, Nat.testBit_two_pow, Nat.testBit_two_pow]
  have e1 : (1 : Nat).testBit (k + 1) = false := by rw [← tb_half]; simp
  rw [e1]
  by_cases c : m = k + 1
  · have : k % 2 = 0 := by omega
    simp [c, this]
  · have : ¬ m - 1 = k := by omega
    simp [c, this]
theorem no_double {f m : Nat} (h : Irr f) (hz : ¬ dvd f 2) (hm : m % 2 = 1) : ¬ dvd (cm f f) (pwo 2 m ^^^ 1) := fun ⟨u, hu⟩ => by
  rw [pwo_two, cm_comm] at hu
  have e := congrArg dv hu
  rw [dv_pow hm, dv_sq] at e
  have d : dvd f (pwo 2 (m - 1)) := by
    rw [pwo_two, e]
    exact dvd_cm' _ (dvd_cm f (dvd_self f))
  exact hz (h.prime_pwo _ d)
theorem gc_cm {x y r : Nat} (h1 : GF.gc x r = 1) (h2 : GF.gc y r = 1) : GF.gc (cm x y) r = 1 := by
  refine dvd_one ?_
  have d1 := gc_l (cm x y) r
  have d2 := gc_r (cm x y) r
  generalize GF.gc (cm x y) r = g at d1 d2
  have h3 : GF.gc g x = 1 := by
    refine dvd_one ?_
    have := gc_max (a := x) (b := r) (gc_r g x) (dvd_trans (gc_l g x) d2)
    rwa [h1] at this
  have := gc_max (dvd_of_gc_one h3 d1) d2
  rwa [h2] at this
theorem gc_one_l (r : Nat) : GF.gc 1 r = 1 := dvd_one (gc_l 1 r)
theorem gc_pwo {f r : Nat} (h : GF.gc f r = 1) : ∀ a, GF.gc (pwo f a) r = 1
  | 0 => gc_one_l r
  | a + 1 => gc_cm (gc_pwo h a) h
theorem dvd_both {a b x : Nat} (h : GF.gc a b = 1) (h1 : dvd a x) (h2 : dvd b x) : dvd (cm a b) x := by
  obtain ⟨u, rfl⟩ := h1
  rw [cm_comm u a] at h2
  have := dvd_of_gc_one (by rw [gc_comm]; exact h) h2
  obtain ⟨v, rfl⟩ := this
  exact ⟨v, by rw [cm_assoc, cm_comm b a]⟩
def fprod : List (Nat × Nat) → Nat
  | [] => 1
  | p :: l => cm (pwo p.1 p.2) (fprod l)
theorem Irr.not_fprod {f : Nat} (h : Irr f) : ∀ l : List (Nat × Nat), (∀ p ∈ l, Irr p.1 ∧ p.1 ≠ f) → ¬ dvd f (fprod l)
  | [], _ => fun d => by
    have := dvd_bl d (show (1 : Nat) ≠ 0 by decide)
    have h1 := h.1
    have : bl (fprod []) = 1 := (by decide : bl 1 = 1)
    omega
  | p :: l, hl => fun d => by
    rcases h.prime d with e | e
    · have h2 := h.prime_pwo _ e
      obtain ⟨hp, ne⟩ := hl p (List.mem_cons_self ..)
      obtain ⟨u, hu⟩ := h2
      rcases hp.2 u f hu with z | z
      · rw [z, cm_one_l] at hu; exact ne hu
      · have := h.1; rw [z] at this; have : bl 1 = 1 := (by decide); omega
    · exact Irr.not_fprod h l (fun x hx => hl x (List.mem_cons_of_mem _ hx)) e
theorem dvd_fprod {x : Nat} : ∀ l : List (Nat × Nat), (l.map (·.1)).Nodup → (∀ p ∈ l, Irr p.1) → (∀ p ∈ l, dvd (pwo p.1 p.2) x) → dvd (fprod l) x
  | [], _, _, _ => one_dvd x
  | p :: l, nd, hi, hd => by
    rw [List.map_cons, List.nodup_cons] at nd
    have hp := hi p (List.mem_cons_self ..)
    refine dvd_both (gc_pwo (hp.gc (hp.not_fprod l fun y hy => ⟨hi y (List.mem_cons_of_mem _ hy), fun e => nd.1 (List.mem_map.2 ⟨y, hy, e⟩)⟩)) _) (hd p (List.mem_cons_self ..)) (dvd_fprod l nd.2 (fun y hy => hi y (List.mem_cons_of_mem _ hy)) fun y hy => hd y (List.mem_cons_of_mem _ hy))
theorem part_fprod : ∀ (l : List (Nat × Nat)) (p : Nat × Nat), p ∈ l → dvd (pwo p.1 p.2) (fprod l)
  | q :: l, p, h => by
    rcases List.mem_cons.1 h with rfl | h
    · exact dvd_cm' _ (dvd_self _)
    · exact dvd_cm _ (part_fprod l p h)
end GF
set_option maxRecDepth 100000
namespace GF
theorem odd_cop {m : Nat} (h : m % 2 = 1) (k : Nat) : Nat.Coprime m (2 ^ k) := by
  have c : Nat.Coprime m 2 := by
    have h1 := Nat.gcd_dvd_right m 2
    have h2 := Nat.gcd_dvd_left m 2
    have h3 := Nat.le_of_dvd (by decide) h1
    unfold Nat.Coprime
    have : Nat.gcd m 2 = 0 ∨ Nat.gcd m 2 = 1 ∨ Nat.gcd m 2 = 2 := by omega
    rcases this with e | e | e
    · rw [e] at h1; exact absurd h1 (by decide)
    · exact e
    · rw [e] at h2; omega
  exact Nat.Coprime.pow_right k c
theorem prm_odd {r : Nat} (h : Prm r) (h2 : r ≠ 2) : r % 2 = 1 := by
  refine Classical.byContradiction fun c => ?_
  have : 2 ∣ r := by omega
  rcases h.2 2 this with e | e
  · omega
  · exact h2 e.symm
theorem dvd_cancel {a b c : Nat} (ha : a ≠ 0) (h : dvd (cm a b) (cm c a)) : dvd b c := by
  obtain ⟨w, hw⟩ := h
  rw [cm_comm a b, ← cm_assoc] at hw
  exact ⟨w, cm_cancel ha hw⟩
structure Pers (l : List (Nat × Nat)) (mm : Nat → Nat) (M k : Nat) : Prop where
  nd : (l.map (·.1)).Nodup
  irr : ∀ p ∈ l, Irr p.1
  noz : ∀ p ∈ l, ¬ dvd p.1 2
  pos : ∀ p ∈ l, 1 ≤ p.2
  odd : ∀ p ∈ l, mm p.1 % 2 = 1
  one : ∀ p ∈ l, One p.1 (mm p.1)
  lst : ∀ p ∈ l, ∀ n, One p.1 n → mm p.1 ∣ n
  m0 : 0 < M
  modd : M % 2 = 1
  mall : ∀ p ∈ l, mm p.1 ∣ M
  mlst : ∀ X, (∀ p ∈ l, mm p.1 ∣ X) → M ∣ X
  big : ∀ p ∈ l, p.2 ≤ 2 ^ k
  sml : k = 0 ∨ ∃ p ∈ l, 2 ^ (k - 1) < p.2
theorem Pers.first {l : List (Nat × Nat)} {mm : Nat → Nat} {M k : Nat} (h : Pers l mm M k) : One (fprod l) (M * 2 ^ k) := by
  unfold One
  rw [one_two]
  refine dvd_fprod l h.nd h.irr fun p hp => dvd_trans (dvd_pwo_le (h.big p hp)) (dvd_pwo ?_ _)
  obtain ⟨j, hj⟩ := h.mall p hp
  have := one_mul (h.one p hp) j
  rw [← hj] at this
  exact this
theorem Pers.least {l : List (Nat × Nat)} {mm : Nat → Nat} {M k : Nat} (h : Pers l mm M k) {r : Nat} (hr : Prm r) (hd : r ∣ M * 2 ^ k) : ¬ One (fprod l) (M * 2 ^ k / r) := fun g => by
  have h0 := h.m0
  have h1 := h.modd
  by_cases c : r = 2
  · subst c
    have hk : k ≠ 0 := fun z => by
      rw [z, Nat.pow_zero, Nat.mul_one] at hd; omega
    obtain ⟨j, rfl⟩ : ∃ j, k = j + 1 := ⟨k - 1, by omega⟩
    rw [Nat.pow_succ, ← Nat.mul_assoc, Nat.mul_div_cancel _ (by decide)] at g
    rcases h.sml with z | ⟨p, hp, hs⟩
    · omega
    · rw [Nat.add_sub_cancel] at hs
      have hi := h.irr p hp
      have e1 : One p.1 M := by
        obtain ⟨i, hj⟩ := h.mall p hp
        have := one_mul (h.one p hp) i
        rwa [← hj] at this
      obtain ⟨u, hu⟩ := e1
      have nu : ¬ dvd p.1 u := fun d => by
        obtain ⟨v, rfl⟩ := d
        exact no_double hi (h.noz p hp) h1 ⟨v, by rw [hu, cm_assoc]⟩
      have g1 := dvd_trans (part_fprod l p hp) g
      rw [one_two, hu, pwo_cm] at g1
      have g2 := dvd_trans (dvd_pwo_le (f := p.1) (show 2 ^ j + 1 ≤ p.2 by omega)) g1
      rw [show pwo p.1 (2 ^ j + 1) = cm (pwo p.1 (2 ^ j)) p.1 from rfl] at g2
      exact nu (hi.prime_pwo _ (dvd_cancel (pwo_ne hi.ne _) g2))
  · have ro := prm_odd hr c
    have hM : r ∣ M := Nat.Coprime.dvd_of_dvd_mul_right (odd_cop ro k) hd
    obtain ⟨M', rfl⟩ := hM
    have r0 : 0 < r := by have := hr.1; omega
    rw [Nat.mul_assoc, Nat.mul_div_cancel_left _ r0] at g
    have : r * M' ∣ M' := h.mlst M' fun p hp => by
      have g1 : One p.1 (M' * 2 ^ k) := by
        refine dvd_trans ?_ g
        refine dvd_trans ?_ (part_fprod l p hp)
        have := dvd_pwo_le (f := p.1) (h.pos p hp)
        rwa [pwo_one] at this
      exact Nat.Coprime.dvd_of_dvd_mul_right (odd_cop (h.odd p hp) k) (h.lst p hp _ g1)
    have h2 : 0 < M' := by
      rcases Nat.eq_zero_or_pos M' with z | z
      · rw [z, Nat.mul_zero] at h0; omega
      · exact z
    have h3 := Nat.le_of_dvd h2 this
    have h4 : 2 * M' ≤ r * M' := Nat.mul_le_mul_right M' hr.1
    omega
theorem irr_first {f : Nat} (h : Irr f) (hz : ¬ dvd f 2) : One f (2 ^ (bl f - 1) - 1) := by
  rw [one_rm h.ne, fermat h hz]
  exact (rm_small (by have : bl 1 = 1 := (by decide); have := h.1; omega)).1.symm
theorem gc_two {q : Nat} (h : q % 2 = 1) : GF.gc 2 q = 1 := by
  have h1 := gc_l 2 q
  have h2 := gc_r 2 q
  have h3 := dvd_bl h1 (by decide)
  have e2 : bl 2 = 2 := by decide
  have g0 : GF.gc 2 q ≠ 0 := gc_ne (.inl (by decide))
  have g4 : GF.gc 2 q < 4 := by
    have := lt_bl (GF.gc 2 q)
    exact Nat.lt_of_lt_of_le this (Nat.pow_le_pow_right (by decide) (show bl (GF.gc 2 q) ≤ 2 by omega))
  have : GF.gc 2 q = 1 ∨ GF.gc 2 q = 2 ∨ GF.gc 2 q = 3 := by omega
  rcases this with e | e | e
  · exact e
  · rw [e] at h2
    obtain ⟨u, hu⟩ := h2
    have := cm_mod2 u 2
    rw [← hu] at this
    omega
  · rw [e] at h1
    obtain ⟨u, hu⟩ := h1
    have e3 : bl 3 = 2 := by decide
    have hu0 : u ≠ 0 := fun z => by rw [z, cm_zero_l] at hu; cases hu
    have := bl_cm hu0 (show (3 : Nat) ≠ 0 by decide)
    rw [← hu] at this
    have : u = 1 := bl_one (by omega)
    rw [this, cm_one_l] at hu
    cases hu
end GF
set_option maxRecDepth 100000
namespace GF
theorem fprod_snoc (p : Nat × Nat) : ∀ l, fprod (l ++ [p]) = cm (fprod l) (pwo p.1 p.2)
  | [] => by show cm (pwo p.1 p.2) 1 = cm 1 (pwo p.1 p.2); rw [cm_one, cm_one_l]
  | x :: l => by
    show cm (pwo x.1 x.2) (fprod (l ++ [p])) = cm (cm (pwo x.1 x.2) (fprod l)) (pwo p.1 p.2)
    rw [fprod_snoc p l, cm_assoc]
def ClrU (R N : Nat) : Prop := ∀ d, 2 ≤ d → d < N → ¬ dvd d R
theorem lt_of_bl {a b : Nat} (h : bl a < bl b) : a < b := by
  have h1 := lt_bl a
  refine Classical.byContradiction fun c => ?_
  have h2 : bl b ≤ bl a := bl_le (by omega)
  omega
theorem clr_irr {R N : Nat} (hR : R ≠ 0) (h : ClrU R N) (hN : 2 ≤ N) (d : dvd N R) : Irr N := by
  have b2 : bl 2 = 2 := by decide
  have hb : 2 ≤ bl N := by
    refine Classical.byContradiction fun c => ?_
    have := lt_of_bl (a := N) (b := 2) (by omega)
    omega
  refine ⟨hb, fun a b e => ?_⟩
  have hN0 : N ≠ 0 := by omega
  have a0 : a ≠ 0 := fun z => by rw [z, cm_zero_l] at e; omega
  have b0 : b ≠ 0 := fun z => by rw [z, cm_zero] at e; omega
  have hl := bl_cm a0 b0
  rw [← e] at hl
  by_cases a1 : a = 1
  · exact .inl a1
  · right
    refine Classical.byContradiction fun b1 => ?_
    have hb2 : 2 ≤ bl a := by
      refine Classical.byContradiction fun c => a1 (bl_one ?_)
      have := bl_pos a0; omega
    have hlt : b < N := lt_of_bl (by omega)
    exact h b (by omega) hlt (dvd_trans ⟨a, e⟩ d)
theorem clr_rest {R N : Nat} (hR : 2 ≤ bl R) (h : ClrU R N) (hN : 2 ≤ N) (hd : bl R - 1 < 2 * (bl N - 1)) : Irr R := by
  refine ⟨hR, fun a b e => ?_⟩
  have hR0 : R ≠ 0 := fun z => by rw [z, bl_zero] at hR; omega
  have a0 : a ≠ 0 := fun z => by rw [z, cm_zero_l] at e; exact hR0 e
  have b0 : b ≠ 0 := fun z => by rw [z, cm_zero] at e; exact hR0 e
  have hl := bl_cm a0 b0
  rw [← e] at hl
  by_cases a1 : a = 1
  · exact .inl a1
  · right
    refine Classical.byContradiction fun b1 => ?_
    have da : dvd a R := ⟨b, by rw [e, cm_comm]⟩
    have db : dvd b R := ⟨a, e⟩
    by_cases c : bl a ≤ bl b
    · exact h a (by omega) (lt_of_bl (by omega)) da
    · exact h b (by omega) (lt_of_bl (by omega)) db
theorem clr_self {R N : Nat} (hR : 2 ≤ bl R) (h : ClrU R N) : N ≤ R := by
  refine Classical.byContradiction fun c => ?_
  have : 2 ≤ R := by
    refine Classical.byContradiction fun z => ?_
    have : R = 0 ∨ R = 1 := by omega
    rcases this with e | e
    · rw [e, bl_zero] at hR; omega
    · rw [e] at hR; have : bl 1 = 1 := (by decide); omega
  exact h R this (by omega) (dvd_self R)
structure Fac (A : Nat) (l : List (Nat × Nat)) (R N : Nat) : Prop where
  prod : A = cm (fprod l) R
  irr : ∀ p ∈ l, Irr p.1 ∧ 1 ≤ p.2
  asc : l.Pairwise fun p q => p.1 < q.1
  low : ∀ p ∈ l, p.1 < N
theorem Fac.add {A : Nat} {l : List (Nat × Nat)} {R N F e R' : Nat} (h : Fac A l R N) (hF : Irr F) (hN : N ≤ F) (he : 1 ≤ e) (hR : R = cm (pwo F e) R') {N' : Nat} (hN' : F < N') : Fac A (l ++ [(F, e)]) R' N' where
  prod := by rw [fprod_snoc, cm_assoc, ← hR]; exact h.prod
  irr := fun p hp => by
    rcases List.mem_append.1 hp with hp | hp
    · exact h.irr p hp
    · rw [List.mem_singleton] at hp; subst hp; exact ⟨hF, he⟩
  asc := by
    rw [List.pairwise_append]
    refine ⟨h.asc, List.pairwise_singleton .., fun p hp q hq => ?_⟩
    rw [List.mem_singleton] at hq; subst hq
    have := h.low p hp
    exact Nat.lt_of_lt_of_le this hN
  low := fun p hp => by
    rcases List.mem_append.1 hp with hp | hp
    · have := h.low p hp; omega
    · rw [List.mem_singleton] at hp; subst hp; exact hN'
theorem Fac.nodup {A : Nat} {l : List (Nat × Nat)} {R N : Nat} (h : Fac A l R N) : (l.map (·.1)).Nodup := by
  rw [List.Nodup, List.pairwise_map]
  exact h.asc.imp fun h => Nat.ne_of_lt h
theorem clr_next {R R' N : Nat} (h : ClrU R N) (hd : dvd R' R) (hn : ¬ dvd N R') : ClrU R' (N + 1) := fun d h1 h2 e => by
  by_cases c : d = N
  · subst c; exact hn e
  · exact h d h1 (by omega) (dvd_trans e hd)
theorem pwo_succ (a n : Nat) : pwo a (n + 1) = cm (pwo a n) a := rfl
end GF
set_option maxRecDepth 100000
namespace GF
def FI (A : Nat) (l : List (Nat × Nat)) (R N : Nat) : Prop := R ≠ 0 ∧ l.length + bl R ≤ bl A ∧ 2 ≤ N ∧ ClrU R N ∧ ∃ M, Fac A l R M ∧ (2 ≤ bl R → M ≤ N)
structure FR (A : Nat) (l : List (Nat × Nat)) : Prop where
  prod : A = fprod l
  irr : ∀ p ∈ l, Irr p.1 ∧ 1 ≤ p.2
  asc : l.Pairwise fun p q => p.1 < q.1
theorem FI.start {A : Nat} (h : A ≠ 0) : FI A [] A 2 := by
  refine ⟨h, by simp, Nat.le_refl _, fun d h1 h2 => by omega, 2, ⟨by show A = cm 1 A; rw [cm_one_l], fun p hp => (by cases hp), List.Pairwise.nil, fun p hp => (by cases hp)⟩, fun _ => Nat.le_refl _⟩
theorem FI.bound {A R N : Nat} {l : List (Nat × Nat)} (h : FI A l R N) (hR : 2 ≤ bl R) : N ≤ R := clr_self hR h.2.2.2.1
theorem clr_add {R N : Nat} (h : ClrU R N) (hn : ¬ dvd N R) : ClrU R (N + 1) := fun d h1 h2 e => by
  by_cases c : d = N
  · subst c; exact hn e
  · exact h d h1 (by omega) e
theorem FI.skip {A R N : Nat} {l : List (Nat × Nat)} (h : FI A l R N) (hn : ¬ dvd N R) : FI A l R (N + 1) := by
  obtain ⟨h1, h2, h3, h4, M, h5, h6⟩ := h
  exact ⟨h1, h2, by omega, clr_add h4 hn, M, h5, fun c => by have := h6 c; omega⟩
theorem part_ne {F e R R' : Nat} (hR : R ≠ 0) (h : R = cm (pwo F e) R') : R' ≠ 0 := fun z => by rw [z, cm_zero] at h; exact hR h
theorem part_blV {F e R R' : Nat} (hF : F ≠ 0) (hR : R ≠ 0) (h : R = cm (pwo F e) R') (he : e ≠ 0) : bl R' + bl F ≤ bl R + 1 := by
  have h1 := part_ne hR h
  have h2 := pwo_ne hF e
  have h3 := bl_cm h2 h1
  rw [← h] at h3
  have h4 : dvd F (pwo F e) := by
    have := dvd_pwo_le (f := F) (show 1 ≤ e by omega)
    rwa [pwo_one] at this
  have := dvd_bl h4 h2
  omega
theorem FI.take {A R N F e R' : Nat} {l : List (Nat × Nat)} (h : FI A l R N) (hb : 2 ≤ bl R) (hF : F = N ∨ (F = R ∧ bl R - 1 < 2 * (bl N - 1))) (hR : R = cm (pwo F e) R') (hd : ¬ dvd F R') (he : e ≠ 0) : FI A (l ++ [(F, e)]) R' (N + 1) := by
  have hNR := h.bound hb
  obtain ⟨h1, h2, h3, h4, M, h5, h6⟩ := h
  have h6 := h6 hb
  have hdF : dvd F R := by
    have : dvd F (pwo F e) := by
      have := dvd_pwo_le (f := F) (show 1 ≤ e by omega)
      rwa [pwo_one] at this
    rw [hR, cm_comm]
    exact dvd_cm _ this
  have hirr : Irr F := by
    rcases hF with rfl | ⟨rfl, hl⟩
    · exact clr_irr h1 h4 h3 hdF
    · exact clr_rest hb h4 h3 hl
  have hMF : M ≤ F := by
    rcases hF with rfl | ⟨rfl, hl⟩
    · exact h6
    · omega
  have hR0 := part_ne h1 hR
  have hbl := part_blV hirr.ne h1 hR he
  have hi := hirr.1
  have hdR : dvd R' R := ⟨pwo F e, hR⟩
  refine ⟨hR0, by rw [List.length_append, List.length_singleton]; omega, by omega, ?_, F + 1, h5.add hirr hMF (by omega) hR (Nat.lt_succ_self F), fun c => ?_⟩
  · rcases hF with rfl | ⟨rfl, hl⟩
    · exact clr_next h4 hdR hd
    · intro d d1 d2 d3
      have : R' = 1 := bl_one (by have := bl_pos hR0; omega)
      rw [this] at d3
      have := dvd_one d3
      omega
  · rcases hF with rfl | ⟨rfl, hl⟩
    · exact Nat.le_refl _
    · omega
theorem FI.fin {A R N : Nat} {l : List (Nat × Nat)} (h : FI A l R N) (hb : ¬ 2 ≤ bl R) : FR A l := by
  obtain ⟨h1, h2, h3, h4, M, h5, h6⟩ := h
  have : R = 1 := bl_one (by have := bl_pos h1; omega)
  subst this
  exact ⟨by have := h5.prod; rwa [cm_one] at this, h5.irr, h5.asc⟩
theorem FR.nodup {A : Nat} {l : List (Nat × Nat)} (h : FR A l) : (l.map (·.1)).Nodup := by
  rw [List.Nodup, List.pairwise_map]
  exact h.asc.imp fun h => Nat.ne_of_lt h
theorem pass_div {F e R R' : Nat} (hF : F ≠ 0) (h : R = cm (pwo F e) R') (hd : dvd F R') : R = cm (pwo F (e + 1)) (qd R' F) := by
  have := qr_id (a := R') hF
  rw [(rm_eq_zero hF).2 hd, Nat.xor_zero] at this
  rw [h, pwo_succ, cm_assoc, cm_comm F, this]
theorem qd_less {F R : Nat} (hF : 2 ≤ bl F) (hR : R ≠ 0) (hd : dvd F R) : bl (qd R F) < bl R ∧ qd R F ≠ 0 := by
  have hF0 : F ≠ 0 := fun z => by rw [z, bl_zero] at hF; omega
  have e := qr_id (a := R) hF0
  rw [(rm_eq_zero hF0).2 hd, Nat.xor_zero] at e
  have h0 : qd R F ≠ 0 := fun z => by rw [z, cm_zero_l] at e; exact hR e.symm
  have := bl_cm h0 hF0
  rw [e] at this
  exact ⟨by omega, h0⟩
def Pms (n : Nat) (l : List Nat) : Prop := l.Pairwise (· < ·) ∧ ∀ p, p ∈ l ↔ Prm p ∧ p ∣ n
structure PI (n : Nat) (l : List Nat) (N p : Nat) : Prop where
  pos : 0 < N
  two : 2 ≤ p
  asc : l.Pairwise (· < ·)
  low : N = 1 ∨ ∀ q ∈ l, q < p
  mem : ∀ q ∈ l, Prm q ∧ q ∣ n
  dvd : N ∣ n
  all : ∀ q, Prm q → q ∣ n → q ∈ l ∨ q ∣ N
  clr : ∀ d, 2 ≤ d → d < p → ¬ d ∣ N
  siz : 2 ^ l.length * N ≤ n
theorem PI.start {n : Nat} (h : 0 < n) : PI n [] n 2 := ⟨h, Nat.le_refl _, List.Pairwise.nil, .inr (fun q hq => by cases hq), fun q hq => (by cases hq), Nat.dvd_refl n, fun q _ h => .inr h, fun d h1 h2 => (by omega), by rw [List.length_nil, Nat.pow_zero, Nat.one_mul]; exact Nat.le_refl _⟩
theorem PI.bound {n N p : Nat} {l : List Nat} (h : PI n l N p) (hN : 1 < N) : p ≤ N := by
  refine Classical.byContradiction fun c => h.clr N (by omega) (by omega) (Nat.dvd_refl N)
theorem PI.prime {n N p F : Nat} {l : List Nat} (h : PI n l N p) (hN : 1 < N) (hF : F = p ∨ (F = N ∧ N < p * p)) (hd : F ∣ N) : Prm F := by
  have h2 := h.two
  have hb := h.bound hN
  rcases hF with rfl | ⟨rfl, hl⟩
  · refine ⟨h.two, fun d hdd => ?_⟩
    have h1 := Nat.le_of_dvd (by omega) hdd
    refine Classical.byContradiction fun c => ?_
    have d0 : d ≠ 0 := fun z => by subst z; have := Nat.eq_zero_of_zero_dvd hdd; omega
    exact h.clr d (by omega) (by omega) (Nat.dvd_trans hdd hd)
  · refine ⟨by omega, fun d hdd => ?_⟩
    refine Classical.byContradiction fun c => ?_
    have d0 : d ≠ 0 := fun z => by subst z; have := Nat.eq_zero_of_zero_dvd hdd; omega
    obtain ⟨e, he⟩ := hdd
    have e0 : e ≠ 0 := fun z => by rw [z, Nat.mul_zero] at he; omega
    have e1 : e ≠ 1 := fun z => by rw [z, Nat.mul_one] at he; omega
    have h3 : p ≤ d := Nat.le_of_not_lt fun z => h.clr d (by omega) z ⟨e, he⟩
    have h4 : p ≤ e := Nat.le_of_not_lt fun z => h.clr e (by omega) z ⟨d, by rw [Nat.mul_comm]; exact he⟩
    have := Nat.mul_le_mul h3 h4
    omega
theorem PI.skip {n N p : Nat} {l : List Nat} (h : PI n l N p) (hn : ¬ p ∣ N) : PI n l N (p + 1) := by
  refine ⟨h.pos, by have := h.two; omega, h.asc, ?_, h.mem, h.dvd, h.all, fun d h1 h2 e => ?_, h.siz⟩
  · rcases h.low with e | e
    · exact .inl e
    · exact .inr fun q hq => by have := e q hq; omega
  · by_cases c : d = p
    · subst c; exact hn e
    · exact h.clr d h1 (by omega) e
theorem prm_mul {q a b : Nat} (h : Prm q) (d : q ∣ a * b) : q ∣ a ∨ q ∣ b := by
  have hg : Nat.gcd q a = 1 ∨ Nat.gcd q a = q := h.2 _ (Nat.gcd_dvd_left q a)
  rcases hg with e | e
  · exact .inr (Nat.Coprime.dvd_of_dvd_mul_left e d)
  · left; rw [← e]; exact Nat.gcd_dvd_right q a
theorem prm_pow {q a : Nat} (h : Prm q) : ∀ e, q ∣ a ^ e → q ∣ a
  | 0, d => by rw [Nat.pow_zero] at d; have := Nat.le_of_dvd (by decide) d; have := h.1; omega
  | e + 1, d => by
    rw [Nat.pow_succ] at d
    rcases prm_mul h d with d | d
    · exact prm_pow h e d
    · exact d
theorem PI.take {n N p F e N' : Nat} {l : List Nat} (h : PI n l N p) (hN : 1 < N) (hF : F = p ∨ (F = N ∧ N < p * p)) (hd : F ∣ N) (hR : N = F ^ e * N') (hn : ¬ F ∣ N') : PI n (l ++ [F]) N' (F + 1) := by
  have hp := h.prime hN hF hd
  have hb := h.bound hN
  have h2 := h.two
  have hlow : ∀ q ∈ l, q < F := by
    rcases h.low with e | e
    · omega
    · intro q hq
      have := e q hq
      rcases hF with rfl | ⟨rfl, _⟩ <;> omega
  have hdd : N' ∣ N := ⟨F ^ e, by rw [Nat.mul_comm]; exact hR⟩
  have hF2 := hp.1
  refine ⟨Nat.pos_of_dvd_of_pos hdd (by omega), by omega, ?_, ?_, fun q hq => ?_, Nat.dvd_trans hdd h.dvd, fun q h1 h2 => ?_, fun d h1 h2 h3 => ?_, ?_⟩
  · rw [List.pairwise_append]
    refine ⟨h.asc, List.pairwise_singleton .., fun q hq r hr => ?_⟩
    rw [List.mem_singleton] at hr; subst hr
    exact hlow q hq
  · right
    intro q hq
    rcases List.mem_append.1 hq with hq | hq
    · have := hlow q hq; omega
    · rw [List.mem_singleton] at hq; omega
  · rcases List.mem_append.1 hq with hq | hq
    · exact h.mem q hq
    · rw [List.mem_singleton] at hq; subst hq; exact ⟨hp, Nat.dvd_trans hd h.dvd⟩
  · rcases h.all q h1 h2 with h3 | h3
    · exact .inl (List.mem_append.2 (.inl h3))
    · rw [hR] at h3
      rcases prm_mul h1 h3 with h4 | h4
      · left
        have h5 := prm_pow h1 e h4
        rcases hp.2 q h5 with h6 | h6
        · have := h1.1; omega
        · exact List.mem_append.2 (.inr (by rw [h6]; exact List.mem_singleton_self _))
      · exact .inr h4
  · by_cases c : d = F
    · subst c; exact hn h3
    · rcases hF with rfl | ⟨rfl, hl⟩
      · exact h.clr d h1 (by omega) (Nat.dvd_trans h3 hdd)
      · have e0 : e ≠ 0 := fun z => by
          rw [z, Nat.pow_zero, Nat.one_mul] at hR
          exact hn (hR ▸ Nat.dvd_refl _)
        have : F ^ 1 ≤ F ^ e := Nat.pow_le_pow_right (by omega) (by omega)
        rw [Nat.pow_one] at this
        have h6 := Nat.pos_of_dvd_of_pos hdd (by omega)
        have h7 : F * N' ≤ F ^ e * N' := Nat.mul_le_mul_right _ this
        have h8 : N' = 1 := by
          refine Classical.byContradiction fun z => ?_
          have : F * 2 ≤ F * N' := Nat.mul_le_mul_left F (show 2 ≤ N' by omega)
          omega
        rw [h8] at h3
        have := Nat.le_of_dvd (by decide) h3
        omega
  · have e0 : e ≠ 0 := fun z => by
      rw [z, Nat.pow_zero, Nat.one_mul] at hR
      exact hn (hR ▸ hd)
    have h6 : 2 ^ 1 ≤ F ^ e := Nat.le_trans (Nat.pow_le_pow_left hF2 1) (Nat.pow_le_pow_right (by omega) (by omega))
    have h7 : 2 * N' ≤ N := by
      have := Nat.mul_le_mul_right N' h6
      omega
    rw [List.length_append, List.length_singleton, Nat.pow_succ, Nat.mul_assoc]
    exact Nat.le_trans (Nat.mul_le_mul_left _ h7) h.siz
theorem PI.len {n N p : Nat} {l : List Nat} (h : PI n l N p) (hn : n < 2 ^ 60) : l.length < 60 := by
  refine Classical.byContradiction fun c => ?_
  have h1 : 2 ^ 60 ≤ 2 ^ l.length := Nat.pow_le_pow_right (by decide) (by omega)
  have h2 := h.siz
  have h3 : 2 ^ l.length * 1 ≤ 2 ^ l.length * N := Nat.mul_le_mul_left _ h.pos
  omega
theorem PI.one {n p p' : Nat} {l : List Nat} (h : PI n l 1 p) (h2 : 2 ≤ p') : PI n l 1 p' := ⟨h.pos, h2, h.asc, .inl rfl, h.mem, h.dvd, h.all, fun d h1 _ h3 => (by have := Nat.le_of_dvd (by decide) h3; omega), h.siz⟩
theorem PI.fin {n N p : Nat} {l : List Nat} (h : PI n l N p) (hN : ¬ 1 < N) : Pms n l := by
  have : N = 1 := by have := h.pos; omega
  subst this
  refine ⟨h.asc, fun q => ⟨h.mem q, fun ⟨h1, h2⟩ => ?_⟩⟩
  rcases h.all q h1 h2 with h3 | h3
  · exact h3
  · have := Nat.le_of_dvd (by decide) h3; have := h1.1; omega
theorem irr_odd {f : Nat} (h : Irr f) (hz : ¬ dvd f 2) : f % 2 = 1 := by
  refine Classical.byContradiction fun c => ?_
  have hf : f % 2 = 0 := by omega
  have e : f = cm (f / 2) 2 := by
    rw [cm_even _ _ rfl, show 2 / 2 = 1 from rfl, cm_one]; omega
  rcases h.2 _ _ e with e1 | e1
  · have : f = 2 := by have := h.ne; omega
    exact hz (this ▸ dvd_self 2)
  · cases e1
theorem pow_odd {k : Nat} (h : k ≠ 0) : (2 ^ k - 1) % 2 = 1 ∧ 0 < 2 ^ k - 1 := by
  obtain ⟨j, rfl⟩ : ∃ j, k = j + 1 := ⟨k - 1, by omega⟩
  have := Nat.two_pow_pos j
  rw [Nat.pow_succ]; omega
structure SI (f : Nat) (done : List Nat) (c : Nat) : Prop where
  pos : 0 < c
  dvd : c ∣ 2 ^ (bl f - 1) - 1
  one : One f c
  not : ∀ p ∈ done, p ∣ c → ¬ One f (c / p)
theorem SI.start {f : Nat} (h : Irr f) (hz : ¬ GF.dvd f 2) : SI f [] (2 ^ (bl f - 1) - 1) :=
  ⟨(pow_odd (by have := h.1; omega)).2, Nat.dvd_refl _, irr_first h hz, fun p hp => by cases hp⟩
theorem SI.next {f c p : Nat} {l : List Nat} (h : SI f l c) (hn : p ∣ c → ¬ One f (c / p)) : SI f (l ++ [p]) c :=
  ⟨h.pos, h.dvd, h.one, fun q hq => by
    rcases List.mem_append.1 hq with hq | hq
    · exact h.not q hq
    · rw [List.mem_singleton] at hq; subst hq; exact hn⟩
theorem SI.fin {f c : Nat} {l : List Nat} (h : SI f l c) (hi : Irr f) (hz : ¬ GF.dvd f 2) (hl : Pms (2 ^ (bl f - 1) - 1) l) : c % 2 = 1 ∧ c < 2 ^ (bl f - 1) ∧ (∀ n, One f n → c ∣ n) := by
  have h1 := pow_odd (k := bl f - 1) (by have := hi.1; omega)
  refine ⟨?_, ?_, fun n hn => one_least (gc_two (irr_odd hi hz)) h.pos h.one (fun p hp hd => h.not p ((hl.2 p).2 ⟨hp, Nat.dvd_trans hd h.dvd⟩) hd) hn⟩
  · obtain ⟨k, hk⟩ := h.dvd
    rw [hk, Nat.mul_mod] at h1
    rcases Nat.mod_two_eq_zero_or_one c with z | z
    · rw [z, Nat.zero_mul] at h1; omega
    · exact z
  · have := Nat.le_of_dvd h1.2 h.dvd
    omega
theorem part_noz {q : Nat} (hq : q % 2 = 1) {f : Nat} (h : Irr f) (hd : dvd f q) : ¬ dvd f 2 := fun d => by
  have := gc_max d hd
  rw [gc_two hq] at this
  have := dvd_one this
  have h1 := h.1
  have : bl 1 = 1 := by decide
  subst f
  omega
end GF
set_option maxRecDepth 100000
namespace GF
def IsOrd (f m : Nat) : Prop := 0 < m ∧ One f m ∧ ∀ n, One f n → m ∣ n
open Classical in
noncomputable def ord (f : Nat) : Nat := if h : ∃ m, IsOrd f m then Classical.choose h else 0
theorem ord_eq {f m : Nat} (h : IsOrd f m) : ord f = m := by
  have hx : ∃ m, IsOrd f m := ⟨m, h⟩
  have e : ord f = Classical.choose hx := by unfold ord; rw [dif_pos hx]
  have hs := Classical.choose_spec hx
  rw [e]
  exact Nat.dvd_antisymm (hs.2.2 _ h.2.1) (h.2.2 _ hs.2.1)
theorem SI.ord {f c : Nat} {l : List Nat} (h : SI f l c) (hi : Irr f) (hz : ¬ GF.dvd f 2) (hl : Pms (2 ^ (bl f - 1) - 1) l) : GF.ord f = c := ord_eq ⟨h.pos, h.one, (h.fin hi hz hl).2.2⟩
theorem least_ex : ∀ {P : Nat → Prop} (k : Nat), P k → ∃ m, P m ∧ ∀ j, j < m → ¬ P j := fun {P} k => by
  induction k using Nat.strongRecOn with
  | _ k ih =>
    intro h
    by_cases c : ∃ j, j < k ∧ P j
    · obtain ⟨j, h1, h2⟩ := c
      exact ih j h1 h2
    · exact ⟨k, h, fun j h1 h2 => c ⟨j, h1, h2⟩⟩
theorem ord_ex {f : Nat} (hi : Irr f) (hz : ¬ dvd f 2) : IsOrd f (ord f) ∧ ord f % 2 = 1 ∧ ord f < 2 ^ (bl f - 1) := by
  have hg := gc_two (irr_odd hi hz)
  have hp := pow_odd (k := bl f - 1) (by have := hi.1; omega)
  obtain ⟨m, ⟨h1, h2⟩, h3⟩ := least_ex (P := fun m => 0 < m ∧ One f m) _ ⟨hp.2, irr_first hi hz⟩
  have h4 : ∀ n, One f n → m ∣ n := fun n hn => by
    have g := one_gcd hg _ m n (Nat.le_refl _) h2 hn
    have g0 : 0 < Nat.gcd m n := Nat.gcd_pos_of_pos_left n h1
    have g1 : Nat.gcd m n ≤ m := Nat.gcd_le_left n h1
    have g2 : Nat.gcd m n = m := Nat.le_antisymm g1 (Nat.le_of_not_lt fun z => h3 _ z ⟨g0, g⟩)
    rw [← g2]; exact Nat.gcd_dvd_right m n
  have e := ord_eq (f := f) ⟨h1, h2, h4⟩
  rw [e]
  have hd := h4 _ (irr_first hi hz)
  refine ⟨⟨h1, h2, h4⟩, ?_, ?_⟩
  · obtain ⟨k, hk⟩ := hd
    rw [hk, Nat.mul_mod] at hp
    rcases Nat.mod_two_eq_zero_or_one m with z | z
    · rw [z, Nat.zero_mul] at hp; omega
    · exact z
  · have := Nat.le_of_dvd hp.2 hd
    omega
def dg : List (Nat × Nat) → Nat
  | [] => 0
  | p :: l => (bl p.1 - 1) + dg l
theorem dg_snoc (p : Nat × Nat) : ∀ l, dg (l ++ [p]) = dg l + (bl p.1 - 1)
  | [] => by show (bl p.1 - 1) + 0 = 0 + _; omega
  | x :: l => by show (bl x.1 - 1) + dg (l ++ [p]) = (bl x.1 - 1) + dg l + _; rw [dg_snoc p l]; omega
theorem dg_take (i : Nat) (l : List (Nat × Nat)) : dg (l.take i) ≤ dg l := by
  induction l generalizing i with
  | nil => simp [dg]
  | cons x l ih =>
    cases i with
    | zero => simp [dg]
    | succ i =>
      rw [List.take_succ_cons]
      have := ih i
      show (bl x.1 - 1) + dg (l.take i) ≤ (bl x.1 - 1) + dg l
      omega
theorem bl_pwo {f : Nat} (h : 2 ≤ bl f) : ∀ e, bl (pwo f e) = e * (bl f - 1) + 1
  | 0 => by rw [Nat.zero_mul]; rfl
  | e + 1 => by
    have hf : f ≠ 0 := fun z => by rw [z, bl_zero] at h; omega
    have h1 := bl_cm (pwo_ne hf e) hf
    rw [← pwo_succ, bl_pwo h e] at h1
    rw [Nat.succ_mul]
    omega
theorem dg_fprod : ∀ l : List (Nat × Nat), (∀ p ∈ l, Irr p.1 ∧ 1 ≤ p.2) → fprod l ≠ 0 ∧ dg l + 1 ≤ bl (fprod l)
  | [], _ => ⟨by show (1 : Nat) ≠ 0; decide, by show 0 + 1 ≤ bl 1; decide⟩
  | p :: l, h => by
    obtain ⟨h1, h2⟩ := dg_fprod l fun q hq => h q (List.mem_cons_of_mem _ hq)
    obtain ⟨h3, h4⟩ := h p (List.mem_cons_self ..)
    have h5 := pwo_ne h3.ne p.2
    refine ⟨cm_ne h5 h1, ?_⟩
    have h6 := bl_cm h5 h1
    have h7 := bl_pwo h3.1 p.2
    have h8 : 1 * (bl p.1 - 1) ≤ p.2 * (bl p.1 - 1) := Nat.mul_le_mul_right _ h4
    show (bl p.1 - 1) + dg l + 1 ≤ bl (cm (pwo p.1 p.2) (fprod l))
    omega
theorem FR.dg {A : Nat} {l : List (Nat × Nat)} (h : FR A l) (i : Nat) : GF.dg (l.take i) + 1 ≤ bl A := by
  have h1 := (dg_fprod l h.irr).2
  have h2 := dg_take i l
  have := h.prod
  rw [← this] at h1
  omega
theorem FR.part {A : Nat} {l : List (Nat × Nat)} (h : FR A l) {p : Nat × Nat} (hp : p ∈ l) : dvd (pwo p.1 p.2) A ∧ bl p.1 ≤ bl A ∧ p.2 + 1 ≤ bl A := by
  have h0 := dg_fprod l h.irr
  have e := h.prod
  rw [← e] at h0
  have h1 : dvd (pwo p.1 p.2) A := by rw [e]; exact part_fprod l p hp
  obtain ⟨h2, h3⟩ := h.irr p hp
  have h4 := dvd_bl h1 h0.1
  rw [bl_pwo h2.1] at h4
  have := h2.1
  have h5 : p.2 * 1 ≤ p.2 * (bl p.1 - 1) := Nat.mul_le_mul_left _ (by omega)
  have h8 : 1 * (bl p.1 - 1) ≤ p.2 * (bl p.1 - 1) := Nat.mul_le_mul_right _ h3
  exact ⟨h1, by omega, by omega⟩
theorem FR.noz {A : Nat} {l : List (Nat × Nat)} (h : FR A l) (hA : A % 2 = 1) {p : Nat × Nat} (hp : p ∈ l) : ¬ dvd p.1 2 := by
  refine part_noz hA (h.irr p hp).1 (dvd_trans ?_ (h.part hp).1)
  have := dvd_pwo_le (f := p.1) (h.irr p hp).2
  rwa [pwo_one] at this
theorem lcm_eq {a b : Nat} : a / Nat.gcd a b * b = Nat.lcm a b := by
  unfold Nat.lcm
  rw [Nat.mul_comm (a / _), Nat.mul_comm a b, Nat.mul_div_assoc _ (Nat.gcd_dvd_left a b)]
structure PA (l : List (Nat × Nat)) (M k : Nat) : Prop where
  m0 : 0 < M
  modd : M % 2 = 1
  mall : ∀ p ∈ l, ord p.1 ∣ M
  mlst : ∀ X, (∀ p ∈ l, ord p.1 ∣ X) → M ∣ X
  big : ∀ p ∈ l, p.2 ≤ 2 ^ k
  sml : k = 0 ∨ ∃ p ∈ l, 2 ^ (k - 1) < p.2
  bnd : M ≤ 2 ^ dg l
theorem PA.nil : PA [] 1 0 := ⟨by decide, by decide, fun p hp => (by cases hp), fun X _ => ⟨X, (Nat.one_mul X).symm⟩, fun p hp => (by cases hp), .inl rfl, by show 1 ≤ 2 ^ 0; decide⟩
theorem PA.add {l : List (Nat × Nat)} {M k k' : Nat} {p : Nat × Nat} (h : PA l M k) (hi : Irr p.1) (hz : ¬ dvd p.1 2) (hk : k ≤ k') (h1 : p.2 ≤ 2 ^ k') (h2 : k' = k ∨ 2 ^ (k' - 1) < p.2) : PA (l ++ [p]) (M / Nat.gcd M (ord p.1) * ord p.1) k' := by
  obtain ⟨ho, h3, h4⟩ := ord_ex hi hz
  rw [lcm_eq]
  have hp : 2 ^ k ≤ 2 ^ k' := Nat.pow_le_pow_right (by decide) hk
  refine ⟨Nat.lcm_pos h.m0 ho.1, ?_, fun q hq => ?_, fun X hX => ?_, fun q hq => ?_, ?_, ?_⟩
  · have hd : Nat.lcm M (ord p.1) ∣ M * ord p.1 := Nat.lcm_dvd_mul M (ord p.1)
    obtain ⟨c, hc⟩ := hd
    have : (M * ord p.1) % 2 = 1 := by rw [Nat.mul_mod, h.modd, h3]
    rw [hc, Nat.mul_mod] at this
    rcases Nat.mod_two_eq_zero_or_one (Nat.lcm M (ord p.1)) with z | z
    · rw [z, Nat.zero_mul] at this; omega
    · exact z
  · rcases List.mem_append.1 hq with hq | hq
    · exact Nat.dvd_trans (h.mall q hq) (Nat.dvd_lcm_left ..)
    · rw [List.mem_singleton] at hq; subst hq; exact Nat.dvd_lcm_right ..
  · exact Nat.lcm_dvd (h.mlst X fun q hq => hX q (List.mem_append.2 (.inl hq))) (hX p (List.mem_append.2 (.inr (List.mem_singleton_self _))))
  · rcases List.mem_append.1 hq with hq | hq
    · have := h.big q hq; omega
    · rw [List.mem_singleton] at hq; subst hq; exact h1
  · rcases h2 with rfl | h2
    · rcases h.sml with e | ⟨q, hq, e⟩
      · exact .inl e
      · exact .inr ⟨q, List.mem_append.2 (.inl hq), e⟩
    · exact .inr ⟨p, List.mem_append.2 (.inr (List.mem_singleton_self _)), h2⟩
  · rw [dg_snoc, Nat.pow_add]
    have := Nat.le_of_dvd (Nat.mul_pos h.m0 ho.1) (Nat.lcm_dvd_mul M (ord p.1))
    exact Nat.le_trans this (Nat.mul_le_mul h.bnd (Nat.le_of_lt h4))
theorem PA.pers {A M k : Nat} {l : List (Nat × Nat)} (h : PA l M k) (hf : FR A l) (hA : A % 2 = 1) : Pers l ord M k where
  nd := hf.nodup
  irr := fun p hp => (hf.irr p hp).1
  noz := fun p hp => hf.noz hA hp
  pos := fun p hp => (hf.irr p hp).2
  odd := fun p hp => (ord_ex (hf.irr p hp).1 (hf.noz hA hp)).2.1
  one := fun p hp => (ord_ex (hf.irr p hp).1 (hf.noz hA hp)).1.2.1
  lst := fun p hp => (ord_ex (hf.irr p hp).1 (hf.noz hA hp)).1.2.2
  m0 := h.m0
  modd := h.modd
  mall := h.mall
  mlst := h.mlst
  big := h.big
  sml := h.sml
theorem PA.fin {A M k : Nat} {l : List (Nat × Nat)} (h : PA l M k) (hf : FR A l) (hA : A % 2 = 1) : One A (M * 2 ^ k) ∧ ∀ r, Prm r → r ∣ M * 2 ^ k → ¬ One A (M * 2 ^ k / r) := by
  have hp := h.pers hf hA
  have e := hf.prod
  refine ⟨by rw [e]; exact hp.first, fun r h1 h2 => by rw [e]; exact hp.least h1 h2⟩
theorem PA.size {M k b : Nat} {l : List (Nat × Nat)} (h : PA l M k) (hb : ∀ p ∈ l, p.2 ≤ b) : 2 ^ k ≤ 2 * b + 1 := by
  rcases h.sml with e | ⟨p, hp, e⟩
  · rw [e, Nat.pow_zero]; omega
  · have := hb p hp
    cases k with
    | zero => rw [Nat.pow_zero]; omega
    | succ k => rw [Nat.add_sub_cancel] at e; rw [Nat.pow_succ]; omega
end GF
set_option maxRecDepth 100000
namespace GF
def expo (l : List (Nat × Nat)) (f : Nat) : Nat := ((l.filter fun p => decide (p.1 = f)).map fun p => p.2).sum
theorem expo_cons {p : Nat × Nat} {l : List (Nat × Nat)} {f : Nat} : expo (p :: l) f = (if p.1 = f then p.2 else 0) + expo l f := by
  unfold expo
  by_cases h : p.1 = f
  · rw [List.filter_cons_of_pos (by simpa using h), if_pos h, List.map_cons, List.sum_cons]
  · rw [List.filter_cons_of_neg (by simpa using h), if_neg h, Nat.zero_add]
theorem expo_append {l k : List (Nat × Nat)} {f : Nat} : expo (l ++ k) f = expo l f + expo k f := by
  unfold expo
  rw [List.filter_append, List.map_append, List.sum_append]
theorem fprod_append : ∀ l k : List (Nat × Nat), fprod (l ++ k) = cm (fprod l) (fprod k)
  | [], k => by show fprod k = cm 1 _; rw [cm_one_l]
  | p :: l, k => by
    show cm (pwo p.1 p.2) (fprod (l ++ k)) = cm (cm (pwo p.1 p.2) (fprod l)) (fprod k)
    rw [fprod_append l k, cm_assoc]
theorem expo_split (f : Nat) : ∀ l : List (Nat × Nat), fprod l = cm (pwo f (expo l f)) (fprod (l.filter fun p => !decide (p.1 = f)))
  | [] => by show 1 = cm 1 1; rw [cm_one]
  | p :: l => by
    have ih := expo_split f l
    rw [expo_cons]
    by_cases h : p.1 = f
    · rw [List.filter_cons_of_neg (by simpa using h), if_pos h, pwo_add, cm_assoc, ← ih, ← h]; rfl
    · rw [List.filter_cons_of_pos (by simpa using h), if_neg h, Nat.zero_add]
      show cm (pwo p.1 p.2) (fprod l) = cm _ (cm (pwo p.1 p.2) _)
      rw [ih, ← cm_assoc, ← cm_assoc, cm_comm (pwo p.1 p.2)]
theorem expo_rest {f : Nat} (hf : Irr f) {l : List (Nat × Nat)} (h : ∀ p ∈ l, Irr p.1) : ¬ dvd f (fprod (l.filter fun p => !decide (p.1 = f))) :=
  hf.not_fprod _ fun p hp => by
    obtain ⟨h1, h2⟩ := List.mem_filter.1 hp
    exact ⟨h p h1, by simpa using h2⟩
theorem pow_pass {f a b r s : Nat} (hf : Irr f) (e : cm (pwo f a) r = cm (pwo f b) s) (hr : ¬ dvd f r) : b ≤ a := by
  refine Nat.le_of_not_lt fun h => ?_
  have h1 : b = a + (b - a) := by omega
  rw [h1, pwo_add, cm_assoc, cm_comm (pwo f a), cm_comm (pwo f a)] at e
  have e := cm_cancel (pwo_ne hf.ne _) e
  obtain ⟨k, hk⟩ : ∃ k, b - a = k + 1 := ⟨b - a - 1, by omega⟩
  rw [hk, pwo_succ] at e
  exact hr ⟨cm (pwo f k) s, by rw [e, cm_assoc, cm_comm f s, ← cm_assoc]⟩
theorem expo_eq {l k : List (Nat × Nat)} (hl : ∀ p ∈ l, Irr p.1) (hk : ∀ p ∈ k, Irr p.1) (e : fprod l = fprod k) {f : Nat} (hf : Irr f) : expo l f = expo k f := by
  rw [expo_split f l, expo_split f k] at e
  exact Nat.le_antisymm (pow_pass hf e.symm (expo_rest hf hk)) (pow_pass hf e (expo_rest hf hl))
theorem expo_none {l : List (Nat × Nat)} {f : Nat} (h : ∀ p ∈ l, p.1 ≠ f) : expo l f = 0 := by
  unfold expo
  rw [List.filter_eq_nil_iff.2 fun p hp => by simpa using h p hp]; rfl
theorem expo_some {l : List (Nat × Nat)} {p : Nat × Nat} (h : p ∈ l) : p.2 ≤ expo l p.1 := by
  induction l with
  | nil => cases h
  | cons x l ih =>
    rw [expo_cons]
    rcases List.mem_cons.1 h with rfl | h
    · rw [if_pos rfl]; omega
    · have := ih h; omega
theorem expo_pos {l : List (Nat × Nat)} (h1 : ∀ p ∈ l, 1 ≤ p.2) {f : Nat} : 0 < expo l f ↔ f ∈ l.map Prod.fst := by
  constructor
  · intro h
    refine Classical.byContradiction fun c => ?_
    rw [expo_none fun p hp e => c (List.mem_map.2 ⟨p, hp, e⟩)] at h
    exact absurd h (Nat.lt_irrefl 0)
  · intro h
    obtain ⟨p, hp, rfl⟩ := List.mem_map.1 h
    have := expo_some hp
    have := h1 p hp
    omega
theorem expo_asc {l : List (Nat × Nat)} (h : l.Pairwise fun p q => p.1 < q.1) : ∀ p ∈ l, expo l p.1 = p.2 := by
  induction l with
  | nil => intro p hp; cases hp
  | cons x l ih =>
    intro p hp
    obtain ⟨h1, h2⟩ := List.pairwise_cons.1 h
    rw [expo_cons]
    rcases List.mem_cons.1 hp with rfl | hp
    · rw [if_pos rfl, expo_none fun q hq e => by have := h1 q hq; omega, Nat.add_zero]
    · have := h1 p hp
      rw [if_neg (by omega), Nat.zero_add, ih h2 p hp]
theorem asc_one : ∀ {a b : List Nat}, a.Pairwise (· < ·) → b.Pairwise (· < ·) → (∀ x, x ∈ a ↔ x ∈ b) → a = b
  | [], [], _, _, _ => rfl
  | [], y :: b, _, _, h => absurd ((h y).2 List.mem_cons_self) (by simp)
  | x :: a, [], _, _, h => absurd ((h x).1 List.mem_cons_self) (by simp)
  | x :: a, y :: b, ha, hb, h => by
    obtain ⟨a1, a2⟩ := List.pairwise_cons.1 ha
    obtain ⟨b1, b2⟩ := List.pairwise_cons.1 hb
    have hxy : x = y := by
      rcases List.mem_cons.1 ((h x).1 List.mem_cons_self) with e | e
      · exact e
      · rcases List.mem_cons.1 ((h y).2 List.mem_cons_self) with e2 | e2
        · exact e2.symm
        · have := b1 x e
          have := a1 y e2
          omega
    subst hxy
    rw [asc_one a2 b2 fun z => ?_]
    constructor
    · intro hz
      rcases List.mem_cons.1 ((h z).1 (List.mem_cons_of_mem _ hz)) with e | e
      · have := a1 z hz; omega
      · exact e
    · intro hz
      rcases List.mem_cons.1 ((h z).2 (List.mem_cons_of_mem _ hz)) with e | e
      · have := b1 z hz; omega
      · exact e
theorem FR.told {A : Nat} {l k : List (Nat × Nat)} (h : FR A l) (hk : ∀ p ∈ k, Irr p.1 ∧ 1 ≤ p.2) (e : fprod k = A) {m : List Nat} (hm : m.Pairwise (· < ·)) (hmm : ∀ x, x ∈ m ↔ x ∈ k.map Prod.fst) : l = m.map fun f => (f, expo k f) := by
  have hx : ∀ f, Irr f → expo l f = expo k f := fun f hf => expo_eq (fun p hp => (h.irr p hp).1) (fun p hp => (hk p hp).1) (by rw [e]; exact h.prod.symm) hf
  have hfst : l.map Prod.fst = m := by
    refine asc_one (List.pairwise_map.2 h.asc) hm fun x => ?_
    rw [hmm]
    constructor
    · intro hx1
      have hi : Irr x := by obtain ⟨p, hp, rfl⟩ := List.mem_map.1 hx1; exact (h.irr p hp).1
      have := (expo_pos (fun p hp => (h.irr p hp).2)).2 hx1
      rw [hx x hi] at this
      exact (expo_pos (fun p hp => (hk p hp).2)).1 this
    · intro hx1
      have hi : Irr x := by obtain ⟨p, hp, rfl⟩ := List.mem_map.1 hx1; exact (hk p hp).1
      have := (expo_pos (fun p hp => (hk p hp).2)).2 hx1
      rw [← hx x hi] at this
      exact (expo_pos (fun p hp => (h.irr p hp).2)).1 this
  rw [← hfst, List.map_map]
  conv => lhs; rw [← List.map_id l]
  refine List.map_congr_left fun p hp => ?_
  show p = (p.1, expo k p.1)
  rw [← hx p.1 (h.irr p hp).1, expo_asc h.asc p hp]
theorem FR.one {A : Nat} {l k : List (Nat × Nat)} (h : FR A l) (h2 : FR A k) : l = k := by
  have e := h.told (k := k) h2.irr h2.prod.symm (m := k.map Prod.fst) (List.pairwise_map.2 h2.asc) fun _ => Iff.rfl
  rw [e, List.map_map]
  conv => rhs; rw [← List.map_id k]
  refine List.map_congr_left fun p hp => ?_
  show (p.1, expo k p.1) = p
  rw [expo_asc h2.asc p hp]
end GF
set_option maxRecDepth 100000
namespace GF
theorem expo_filter_ne {f g : Nat} (h : g ≠ f) : ∀ l : List (Nat × Nat), expo (l.filter fun p => !decide (p.1 = f)) g = expo l g
  | [] => rfl
  | p :: l => by
    by_cases e : p.1 = f
    · rw [List.filter_cons_of_neg (by simpa using e), expo_filter_ne h l, expo_cons, if_neg (fun z => h (z.symm.trans e)), Nat.zero_add]
    · rw [List.filter_cons_of_pos (by simpa using e), expo_cons, expo_cons, expo_filter_ne h l]
theorem expo_filter_eq {f : Nat} (l : List (Nat × Nat)) : expo (l.filter fun p => !decide (p.1 = f)) f = 0 := expo_none fun p hp e => by
  have := (List.mem_filter.1 hp).2
  simp [e] at this
theorem expo_dvd : ∀ {l k : List (Nat × Nat)}, (∀ p ∈ l, Irr p.1) → (∀ p ∈ k, Irr p.1) → (∀ f, Irr f → expo l f ≤ expo k f) → dvd (fprod l) (fprod k)
  | [], k, _, _, _ => ⟨fprod k, by show fprod k = cm _ 1; rw [cm_one]⟩
  | p :: l, k, hl, hk, h => by
    have hp := hl p List.mem_cons_self
    have h1 := h p.1 hp
    rw [expo_cons, if_pos rfl] at h1
    have e := expo_split p.1 k
    rw [show expo k p.1 = p.2 + (expo k p.1 - p.2) by omega, pwo_add, cm_assoc] at e
    obtain ⟨u, hu⟩ := expo_dvd (l := l) (k := (p.1, expo k p.1 - p.2) :: k.filter fun q => !decide (q.1 = p.1)) (fun q hq => hl q (List.mem_cons_of_mem _ hq)) (fun q hq => by
      rcases List.mem_cons.1 hq with rfl | hq
      · exact hp
      · exact hk q (List.mem_filter.1 hq).1) (fun f hf => by
      rw [expo_cons]
      by_cases c : p.1 = f
      · subst c
        rw [if_pos rfl, expo_filter_eq]; omega
      · rw [if_neg c, expo_filter_ne (fun z => c z.symm), Nat.zero_add]
        have := h f hf
        rw [expo_cons, if_neg c, Nat.zero_add] at this
        exact this)
    have hu : cm (pwo p.1 (expo k p.1 - p.2)) (fprod (k.filter fun q => !decide (q.1 = p.1))) = cm u (fprod l) := hu
    refine ⟨u, ?_⟩
    show fprod k = cm u (cm (pwo p.1 p.2) (fprod l))
    rw [e, hu, ← cm_assoc, ← cm_assoc, cm_comm (pwo p.1 p.2) u]
theorem fprod_ne {l : List (Nat × Nat)} (h : ∀ p ∈ l, Irr p.1) : fprod l ≠ 0 := by
  induction l with
  | nil => show (1 : Nat) ≠ 0; decide
  | cons p l ih => exact cm_ne (pwo_ne (h p List.mem_cons_self).ne _) (ih fun q hq => h q (List.mem_cons_of_mem _ hq))
theorem fac_ex : ∀ (n g : Nat), g ≠ 0 → bl g ≤ n → ∃ l : List (Nat × Nat), (∀ p ∈ l, Irr p.1 ∧ 1 ≤ p.2) ∧ fprod l = g
  | 0, g, hg, hn => by have := bl_pos hg; omega
  | n + 1, g, hg, hn => by
    by_cases h1 : bl g = 1
    · exact ⟨[], fun p hp => (by cases hp), by rw [bl_one h1]; rfl⟩
    have h2 : 2 ≤ bl g := by have := bl_pos hg; omega
    by_cases hi : Irr g
    · exact ⟨[(g, 1)], fun p hp => by rw [List.mem_singleton.1 hp]; exact ⟨hi, Nat.le_refl _⟩, by show cm (pwo g 1) 1 = g; rw [cm_one, pwo_succ]; exact cm_one_l g⟩
    · have : ∃ a b, g = cm a b ∧ a ≠ 1 ∧ b ≠ 1 := Classical.byContradiction fun c => hi ⟨h2, fun a b e => Classical.byContradiction fun d => c ⟨a, b, e, fun z => d (.inl z), fun z => d (.inr z)⟩⟩
      obtain ⟨a, b, e, ha, hb⟩ := this
      have ha0 : a ≠ 0 := fun z => hg (by rw [e, z, cm_comm, cm_zero])
      have hb0 : b ≠ 0 := fun z => hg (by rw [e, z, cm_zero])
      have hbl := bl_cm ha0 hb0
      rw [← e] at hbl
      have ha2 : bl a ≠ 1 := fun z => ha (bl_one z)
      have hb2 : bl b ≠ 1 := fun z => hb (bl_one z)
      have := bl_pos ha0
      have := bl_pos hb0
      obtain ⟨l, l1, l2⟩ := fac_ex n a ha0 (by omega)
      obtain ⟨k, k1, k2⟩ := fac_ex n b hb0 (by omega)
      refine ⟨l ++ k, fun p hp => ?_, by rw [fprod_append, l2, k2, ← e]⟩
      rcases List.mem_append.1 hp with hp | hp
      · exact l1 p hp
      · exact k1 p hp
theorem dvd_expo {d : Nat} {l k : List (Nat × Nat)} (hl : ∀ p ∈ l, Irr p.1) (hk : ∀ p ∈ k, Irr p.1) (e : fprod k = d) (h : dvd d (fprod l)) {f : Nat} (hf : Irr f) : expo k f ≤ expo l f := by
  obtain ⟨u, hu⟩ := h
  have hu0 : u ≠ 0 := fun z => fprod_ne hl (by rw [hu, z, cm_comm, cm_zero])
  obtain ⟨lu, l1, l2⟩ := fac_ex _ u hu0 (Nat.le_refl _)
  have := expo_eq (l := l) (k := lu ++ k) hl (fun p hp => by
    rcases List.mem_append.1 hp with hp | hp
    · exact (l1 p hp).1
    · exact hk p hp) (by rw [fprod_append, l2, e, hu]) hf
  rw [expo_append] at this
  omega
theorem gc_fprod {a b c : List (Nat × Nat)} (ha : ∀ p ∈ a, Irr p.1) (hb : ∀ p ∈ b, Irr p.1) (hc : ∀ p ∈ c, Irr p.1) (h : ∀ f, Irr f → expo c f = min (expo a f) (expo b f)) : gc (fprod a) (fprod b) = fprod c := by
  refine gc_eq (expo_dvd hc ha fun f hf => by rw [h f hf]; exact Nat.min_le_left _ _) (expo_dvd hc hb fun f hf => by rw [h f hf]; exact Nat.min_le_right _ _) fun d h1 h2 => ?_
  have hd : d ≠ 0 := fun z => by
    obtain ⟨u, hu⟩ := h1
    exact fprod_ne ha (by rw [hu, z, cm_zero])
  obtain ⟨k, k1, k2⟩ := fac_ex _ d hd (Nat.le_refl _)
  rw [← k2]
  refine expo_dvd (fun p hp => (k1 p hp).1) hc fun f hf => ?_
  rw [h f hf]
  have g1 := dvd_expo ha (fun p hp => (k1 p hp).1) k2 h1 hf
  have g2 := dvd_expo hb (fun p hp => (k1 p hp).1) k2 h2 hf
  omega
abbrev on1 (r : List Nat) : List (Nat × Nat) := r.map fun x => (x, 1)
theorem expo_on1 {f : Nat} : ∀ r : List Nat, expo (on1 r) f = r.count f
  | [] => rfl
  | x :: r => by
    show expo ((x, 1) :: on1 r) f = _
    rw [expo_cons, expo_on1 r, List.count_cons]
    by_cases h : x = f
    · subst h; simp; omega
    · have : ¬ (x == f) = true := by simpa using h
      rw [if_neg h, if_neg this]; omega
theorem on1_irr {r : List Nat} (h : ∀ x ∈ r, Irr x) : ∀ p ∈ on1 r, Irr p.1 ∧ 1 ≤ p.2 := fun p hp => by
  obtain ⟨x, hx, rfl⟩ := List.mem_map.1 hp
  exact ⟨h x hx, Nat.le_refl _⟩
theorem on1_fst {r : List Nat} : (on1 r).map Prod.fst = r := by
  rw [List.map_map]
  conv => rhs; rw [← List.map_id r]
  rfl
theorem on1_bl : ∀ {r : List Nat}, (∀ x ∈ r, Irr x) → bl (fprod (on1 r)) = (r.map fun x => bl x - 1).sum + 1
  | [], _ => by show bl 1 = 1; decide
  | x :: r, h => by
    have hx := h x List.mem_cons_self
    have hr : ∀ y ∈ r, Irr y := fun y hy => h y (List.mem_cons_of_mem _ hy)
    have h0 := fprod_ne fun p hp => (on1_irr hr p hp).1
    show bl (cm (pwo x 1) (fprod (on1 r))) = _
    rw [show pwo x 1 = x by rw [pwo_succ]; exact cm_one_l x]
    have h1 := bl_cm hx.ne h0
    have h2 := on1_bl hr
    have h3 := hx.1
    rw [List.map_cons, List.sum_cons]
    omega
end GF
namespace K05
open PySem L2 DL GF
local macro_rules | `(tactic| decreasing_trivial) => `(tactic| first | omega | (simp only [List.length_append, List.length_cons, List.length_nil, List.length_map, List.length_range, List.length_range', List.length_replicate, List.length_take, List.length_drop, List.length_reverse, List.length_set, List.length_zip, List.length_zipIdx] at *; omega))
local macro_rules | `(tactic| array_get_dec) => `(tactic| first | ((with_reducible apply r_bset_new); (focus ((repeat (first | assumption | with_reducible exact isL_new | with_reducible exact isI_new | (with_reducible apply isL_put) | (with_reducible apply isI_put) | (with_reducible apply isL_newN) | (with_reducible apply isI_newN) | (with_reducible apply isL_tick) | (with_reducible apply isI_tick) | ((with_reducible apply isL_putN); focus (first | omega | (simp only [put_nx, new_nx, tick_nx]; omega))) | ((with_reducible apply isI_putN); focus (first | omega | (simp only [put_nx, new_nx, tick_nx]; omega))))); done)); (focus (repeat (first | exact SnocTo.nil | apply SnocTo.cons))); (focus exact rfl)) | ((with_reducible apply r_bset_old); (focus ((repeat (first | assumption | with_reducible exact isL_new | with_reducible exact isI_new | (with_reducible apply isL_put) | (with_reducible apply isI_put) | (with_reducible apply isL_newN) | (with_reducible apply isI_newN) | (with_reducible apply isL_tick) | (with_reducible apply isI_tick) | ((with_reducible apply isL_putN); focus (first | omega | (simp only [put_nx, new_nx, tick_nx]; omega))) | ((with_reducible apply isI_putN); focus (first | omega | (simp only [put_nx, new_nx, tick_nx]; omega))))); done)); (focus exact rfl); (focus (repeat (first | exact SetAt.zero | apply SetAt.succ)))) | ((with_reducible apply o_xf); (focus ((repeat (first | exact GetAt.zero | apply GetAt.succ)); done)); (focus exact rfl); (focus exact rfl)) | ((with_reducible apply o_isX); (focus ((repeat (first | exact GetAt.zero | apply GetAt.succ)); done)); (focus exact rfl)) | ((with_reducible refine And.intro ?_ ?_); (focus first | exact trivial | exact rfl)) | with_reducible refine m_nx ?_ | with_reducible refine m_rt ?_)
local macro_rules | `(tactic| array_get_dec) => `(tactic| first | ((with_reducible refine r_iT ?_ ?_); (focus omega)) | ((with_reducible refine r_iF ?_ ?_); (focus omega)) | ((with_reducible refine r_nT ?_ ?_); (focus omega)) | ((with_reducible refine r_nF ?_ ?_); (focus omega)) | ((with_reducible apply r_bT); (focus exact rfl)) | ((with_reducible apply r_bF); (focus exact rfl)) | ((with_reducible apply r_fin); (focus exact rfl)) | ((with_reducible apply o_self); (focus ((repeat (first | exact GetAt.zero | apply GetAt.succ)); done)); (focus exact rfl); (focus first | exact rfl | (dsimp only; exact rfl)); (focus exact rfl)) | ((with_reducible apply r_ss); (focus ((repeat (first | exact GetAt.zero | apply GetAt.succ)); done)); (focus (repeat (first | exact SnocTo.nil | apply SnocTo.cons))); (focus exact rfl); (focus exact rfl)) | ((with_reducible apply r_snoc); (focus (repeat (first | exact SnocTo.nil | apply SnocTo.cons)))))
local macro_rules | `(tactic| array_get_dec) => `(tactic| first | with_reducible refine r_eqNil_m ?_ | with_reducible refine r_sl_sto ?_ | with_reducible refine r_sl_sfr ?_ | with_reducible refine r_max_ii ?_ | with_reducible refine r_min_ii ?_ | with_reducible refine r_in_l ?_ | with_reducible refine r_in_t ?_ | with_reducible refine r_ni_l ?_ | with_reducible refine r_ni_t ?_ | with_reducible refine r_ni01 ?_)
local macro_rules | `(tactic| array_get_dec) => `(tactic| first | ((with_reducible apply r_ix_bn); (focus ((repeat (first | assumption | with_reducible exact isL_new | with_reducible exact isI_new | (with_reducible apply isL_put) | (with_reducible apply isI_put) | (with_reducible apply isL_newN) | (with_reducible apply isI_newN) | (with_reducible apply isL_tick) | (with_reducible apply isI_tick) | ((with_reducible apply isL_putN); focus (first | omega | (simp only [put_nx, new_nx, tick_nx]; omega))) | ((with_reducible apply isI_putN); focus (first | omega | (simp only [put_nx, new_nx, tick_nx]; omega))))); done)); (focus decreasing_trivial)) | ((with_reducible apply r_ix_b); (focus ((repeat (first | assumption | with_reducible exact isL_new | with_reducible exact isI_new | (with_reducible apply isL_put) | (with_reducible apply isI_put) | (with_reducible apply isL_newN) | (with_reducible apply isI_newN) | (with_reducible apply isL_tick) | (with_reducible apply isI_tick) | ((with_reducible apply isL_putN); focus (first | omega | (simp only [put_nx, new_nx, tick_nx]; omega))) | ((with_reducible apply isI_putN); focus (first | omega | (simp only [put_nx, new_nx, tick_nx]; omega))))); done)); (focus exact rfl)) | ((with_reducible apply r_nlist_b); (focus ((repeat (first | assumption | with_reducible exact isL_new | with_reducible exact isI_new | (with_reducible apply isL_put) | (with_reducible apply isI_put) | (with_reducible apply isL_newN) | (with_reducible apply isI_newN) | (with_reducible apply isL_tick) | (with_reducible apply isI_tick) | ((with_reducible apply isL_putN); focus (first | omega | (simp only [put_nx, new_nx, tick_nx]; omega))) | ((with_reducible apply isI_putN); focus (first | omega | (simp only [put_nx, new_nx, tick_nx]; omega))))); done))) | ((with_reducible apply r_list_b); (focus ((repeat (first | assumption | with_reducible exact isL_new | with_reducible exact isI_new | (with_reducible apply isL_put) | (with_reducible apply isI_put) | (with_reducible apply isL_newN) | (with_reducible apply isI_newN) | (with_reducible apply isL_tick) | (with_reducible apply isI_tick) | ((with_reducible apply isL_putN); focus (first | omega | (simp only [put_nx, new_nx, tick_nx]; omega))) | ((with_reducible apply isI_putN); focus (first | omega | (simp only [put_nx, new_nx, tick_nx]; omega))))); done))) | ((with_reducible apply r_tup_b); (focus ((repeat (first | assumption | with_reducible exact isL_new | with_reducible exact isI_new | (with_reducible apply isL_put) | (with_reducible apply isI_put) | (with_reducible apply isL_newN) | (with_reducible apply isI_newN) | (with_reducible apply isL_tick) | (with_reducible apply isI_tick) | ((with_reducible apply isL_putN); focus (first | omega | (simp only [put_nx, new_nx, tick_nx]; omega))) | ((with_reducible apply isI_putN); focus (first | omega | (simp only [put_nx, new_nx, tick_nx]; omega))))); done))) | ((with_reducible apply r_sl_bfr); (focus ((repeat (first | assumption | with_reducible exact isL_new | with_reducible exact isI_new | (with_reducible apply isL_put) | (with_reducible apply isI_put) | (with_reducible apply isL_newN) | (with_reducible apply isI_newN) | (with_reducible apply isL_tick) | (with_reducible apply isI_tick) | ((with_reducible apply isL_putN); focus (first | omega | (simp only [put_nx, new_nx, tick_nx]; omega))) | ((with_reducible apply isI_putN); focus (first | omega | (simp only [put_nx, new_nx, tick_nx]; omega))))); done))) | ((with_reducible apply r_sl_bto); (focus ((repeat (first | assumption | with_reducible exact isL_new | with_reducible exact isI_new | (with_reducible apply isL_put) | (with_reducible apply isI_put) | (with_reducible apply isL_newN) | (with_reducible apply isI_newN) | (with_reducible apply isL_tick) | (with_reducible apply isI_tick) | ((with_reducible apply isL_putN); focus (first | omega | (simp only [put_nx, new_nx, tick_nx]; omega))) | ((with_reducible apply isI_putN); focus (first | omega | (simp only [put_nx, new_nx, tick_nx]; omega))))); done))) | ((with_reducible apply r_methB); (focus ((repeat (first | assumption | with_reducible exact isL_new | with_reducible exact isI_new | (with_reducible apply isL_put) | (with_reducible apply isI_put) | (with_reducible apply isL_newN) | (with_reducible apply isI_newN) | (with_reducible apply isL_tick) | (with_reducible apply isI_tick) | ((with_reducible apply isL_putN); focus (first | omega | (simp only [put_nx, new_nx, tick_nx]; omega))) | ((with_reducible apply isI_putN); focus (first | omega | (simp only [put_nx, new_nx, tick_nx]; omega))))); done))) | ((with_reducible apply r_fB); (focus ((repeat (first | assumption | with_reducible exact isL_new | with_reducible exact isI_new | (with_reducible apply isL_put) | (with_reducible apply isI_put) | (with_reducible apply isL_newN) | (with_reducible apply isI_newN) | (with_reducible apply isL_tick) | (with_reducible apply isI_tick) | ((with_reducible apply isL_putN); focus (first | omega | (simp only [put_nx, new_nx, tick_nx]; omega))) | ((with_reducible apply isI_putN); focus (first | omega | (simp only [put_nx, new_nx, tick_nx]; omega))))); done)); (focus exact rfl)) | ((with_reducible apply r_forB0); (focus ((repeat (first | assumption | with_reducible exact isL_new | with_reducible exact isI_new | (with_reducible apply isL_put) | (with_reducible apply isI_put) | (with_reducible apply isL_newN) | (with_reducible apply isI_newN) | (with_reducible apply isL_tick) | (with_reducible apply isI_tick) | ((with_reducible apply isL_putN); focus (first | omega | (simp only [put_nx, new_nx, tick_nx]; omega))) | ((with_reducible apply isI_putN); focus (first | omega | (simp only [put_nx, new_nx, tick_nx]; omega))))); done))))
local macro_rules | `(tactic| array_get_dec) => `(tactic| first | ((with_reducible apply o_gtup); (focus exact rfl)) | ((with_reducible apply o_glst); (focus exact rfl)) | ((with_reducible apply r_lcU1); (focus exact rfl)) | ((with_reducible apply r_bl1); (focus ((repeat (first | assumption | with_reducible exact isL_new | with_reducible exact isI_new | (with_reducible apply isL_put) | (with_reducible apply isI_put) | (with_reducible apply isL_newN) | (with_reducible apply isI_newN) | (with_reducible apply isL_tick) | (with_reducible apply isI_tick) | ((with_reducible apply isL_putN); focus (first | omega | (simp only [put_nx, new_nx, tick_nx]; omega))) | ((with_reducible apply isI_putN); focus (first | omega | (simp only [put_nx, new_nx, tick_nx]; omega))))); done))) | ((with_reducible apply r_bappn); (focus ((repeat (first | assumption | with_reducible exact isL_new | with_reducible exact isI_new | (with_reducible apply isL_put) | (with_reducible apply isI_put) | (with_reducible apply isL_newN) | (with_reducible apply isI_newN) | (with_reducible apply isL_tick) | (with_reducible apply isI_tick) | ((with_reducible apply isL_putN); focus (first | omega | (simp only [put_nx, new_nx, tick_nx]; omega))) | ((with_reducible apply isI_putN); focus (first | omega | (simp only [put_nx, new_nx, tick_nx]; omega))))); done)); (focus decreasing_trivial)) | ((with_reducible apply r_bapp); (focus ((repeat (first | assumption | with_reducible exact isL_new | with_reducible exact isI_new | (with_reducible apply isL_put) | (with_reducible apply isI_put) | (with_reducible apply isL_newN) | (with_reducible apply isI_newN) | (with_reducible apply isL_tick) | (with_reducible apply isI_tick) | ((with_reducible apply isL_putN); focus (first | omega | (simp only [put_nx, new_nx, tick_nx]; omega))) | ((with_reducible apply isI_putN); focus (first | omega | (simp only [put_nx, new_nx, tick_nx]; omega))))); done)); (focus decreasing_trivial)) | ((with_reducible apply r_bputn); (focus ((repeat (first | assumption | with_reducible exact isL_new | with_reducible exact isI_new | (with_reducible apply isL_put) | (with_reducible apply isI_put) | (with_reducible apply isL_newN) | (with_reducible apply isI_newN) | (with_reducible apply isL_tick) | (with_reducible apply isI_tick) | ((with_reducible apply isL_putN); focus (first | omega | (simp only [put_nx, new_nx, tick_nx]; omega))) | ((with_reducible apply isI_putN); focus (first | omega | (simp only [put_nx, new_nx, tick_nx]; omega))))); done)); (focus decreasing_trivial)) | ((with_reducible apply r_len_bm); (focus ((repeat (first | assumption | with_reducible exact isL_new | with_reducible exact isI_new | (with_reducible apply isL_put) | (with_reducible apply isI_put) | (with_reducible apply isL_newN) | (with_reducible apply isI_newN) | (with_reducible apply isL_tick) | (with_reducible apply isI_tick) | ((with_reducible apply isL_putN); focus (first | omega | (simp only [put_nx, new_nx, tick_nx]; omega))) | ((with_reducible apply isI_putN); focus (first | omega | (simp only [put_nx, new_nx, tick_nx]; omega))))); done))) | ((with_reducible apply r_len_b); (focus ((repeat (first | assumption | with_reducible exact isL_new | with_reducible exact isI_new | (with_reducible apply isL_put) | (with_reducible apply isI_put) | (with_reducible apply isL_newN) | (with_reducible apply isI_newN) | (with_reducible apply isL_tick) | (with_reducible apply isI_tick) | ((with_reducible apply isL_putN); focus (first | omega | (simp only [put_nx, new_nx, tick_nx]; omega))) | ((with_reducible apply isI_putN); focus (first | omega | (simp only [put_nx, new_nx, tick_nx]; omega))))); done))) | ((with_reducible apply r_tru_bm); (focus ((repeat (first | assumption | with_reducible exact isL_new | with_reducible exact isI_new | (with_reducible apply isL_put) | (with_reducible apply isI_put) | (with_reducible apply isL_newN) | (with_reducible apply isI_newN) | (with_reducible apply isL_tick) | (with_reducible apply isI_tick) | ((with_reducible apply isL_putN); focus (first | omega | (simp only [put_nx, new_nx, tick_nx]; omega))) | ((with_reducible apply isI_putN); focus (first | omega | (simp only [put_nx, new_nx, tick_nx]; omega))))); done))))
local macro_rules | `(tactic| array_get_dec) => `(tactic| first | ((with_reducible refine r_add_ts ?_ ?_); (focus decreasing_trivial)) | ((with_reducible refine r_add_sl ?_ ?_); (focus decreasing_trivial)) | ((with_reducible refine r_add_st ?_ ?_); (focus decreasing_trivial)) | ((with_reducible refine r_add_ll ?_ ?_); (focus decreasing_trivial)) | ((with_reducible refine r_add_tt ?_ ?_); (focus decreasing_trivial)) | ((with_reducible apply r_sz); (focus exact rfl)) | ((with_reducible refine r_szm ?_ ?_); (focus decreasing_trivial)) | ((with_reducible apply r_f); (focus exact rfl)) | ((with_reducible apply r_ownP); (focus exact rfl)) | ((with_reducible apply r_isI); (focus exact rfl)))
local macro_rules | `(tactic| array_get_dec) => `(tactic| first | with_reducible refine r_zip_t ?_ | ((with_reducible refine r_app_n ?_ ?_); (focus decreasing_trivial)) | ((with_reducible refine r_app_l ?_ ?_); (focus decreasing_trivial)) | ((with_reducible refine r_put_n ?_ ?_); (focus decreasing_trivial)) | ((with_reducible refine r_nrep_n ?_ ?_); (focus omega)) | ((with_reducible refine r_ncat_m ?_ ?_); (focus decreasing_trivial)) | with_reducible refine r_nlist_l ?_ | with_reducible refine r_nlist_t ?_ | with_reducible refine r_nlist_s ?_ | ((with_reducible refine r_add_ls ?_ ?_); (focus decreasing_trivial)))
local macro_rules | `(tactic| array_get_dec) => `(tactic| first | with_reducible refine r_sl_Tto ?_ | with_reducible refine r_sl_Tfr ?_ | with_reducible refine r_sl_Tmi ?_ | ((with_reducible refine r_rng1 ?_ ?_); (focus omega)) | ((with_reducible refine r_rngd1 ?_ ?_); (focus omega)) | ((with_reducible refine r_rngd ?_ ?_); (focus omega)) | ((with_reducible refine r_rng2 ?_ ?_ ?_); (focus omega); (focus omega)) | with_reducible refine r_enum_m ?_ | with_reducible refine r_enum_t ?_ | with_reducible refine r_zip_m ?_)
local macro_rules | `(tactic| array_get_dec) => `(tactic| first | with_reducible refine r_rev_m ?_ | with_reducible refine r_sl_lto ?_ | with_reducible refine r_sl_lfr ?_ | with_reducible refine r_sl_lmi ?_ | with_reducible refine r_sl_tto ?_ | with_reducible refine r_sl_tfr ?_ | with_reducible refine r_sl_tmi ?_ | with_reducible refine r_sl_Lto ?_ | with_reducible refine r_sl_Lfr ?_ | with_reducible refine r_sl_Lmi ?_)
local macro_rules | `(tactic| array_get_dec) => `(tactic| first | with_reducible refine r_tru_sm ?_ | with_reducible refine r_tru_l ?_ | with_reducible refine r_tru_t ?_ | with_reducible refine r_list_t ?_ | with_reducible refine r_list_l ?_ | with_reducible refine r_list_s ?_ | with_reducible refine r_tup_t ?_ | with_reducible refine r_tup_l ?_ | with_reducible refine r_sum_n ?_ | with_reducible refine r_sum_t ?_)
local macro_rules | `(tactic| array_get_dec) => `(tactic| first | ((with_reducible refine r_ix_tn ?_ ?_); (focus decreasing_trivial)) | ((with_reducible apply r_ix_l); (focus exact rfl)) | ((with_reducible apply r_ix_t); (focus exact rfl)) | with_reducible refine r_int_i ?_ | with_reducible refine r_int_b ?_ | with_reducible refine r_bool_b ?_ | with_reducible refine r_tru_b ?_ | with_reducible refine r_tru_non ?_ | with_reducible refine r_tru_lm ?_ | with_reducible refine r_tru_tm ?_)
local macro_rules | `(tactic| array_get_dec) => `(tactic| first | with_reducible refine r_eq_no ?_ | with_reducible refine r_ne_no ?_ | ((with_reducible apply r_is_b); (focus exact rfl)) | ((with_reducible apply r_isnt_b); (focus exact rfl)) | with_reducible refine r_len_lm ?_ | with_reducible refine r_len_tm ?_ | with_reducible refine r_len_sm ?_ | with_reducible refine r_len_l ?_ | with_reducible refine r_len_t ?_ | ((with_reducible refine r_ix_ln ?_ ?_); (focus decreasing_trivial)))
local macro_rules | `(tactic| array_get_dec) => `(tactic| first | with_reducible refine r_eq_ln ?_ | with_reducible refine r_ne_ln ?_ | with_reducible refine r_eq_tn ?_ | with_reducible refine r_ne_tn ?_ | with_reducible refine r_eq_bb ?_ | with_reducible refine r_ne_bb ?_ | with_reducible refine r_eq_in ?_ | with_reducible refine r_ne_in ?_ | with_reducible refine r_eq_ni ?_ | with_reducible refine r_ne_ni ?_)
local macro_rules | `(tactic| array_get_dec) => `(tactic| first | with_reducible refine r_iadd_ii ?_ | with_reducible refine r_sub_ii ?_ | ((with_reducible refine r_mod_ii ?_ ?_); (focus omega)) | with_reducible refine r_neg ?_ | with_reducible refine r_lt_ii ?_ | with_reducible refine r_le_ii ?_ | with_reducible refine r_gt_ii ?_ | with_reducible refine r_ge_ii ?_ | with_reducible refine r_eq_ii ?_ | with_reducible refine r_ne_ii ?_)
local macro_rules | `(tactic| array_get_dec) => `(tactic| first | with_reducible refine r_max_nn ?_ | with_reducible refine r_min_nn ?_ | with_reducible refine r_bits ?_ | with_reducible refine r_bool_n ?_ | with_reducible refine r_tru_n ?_ | ((with_reducible refine r_add_lm ?_ ?_); (focus decreasing_trivial)) | ((with_reducible refine r_add_tm ?_ ?_); (focus decreasing_trivial)) | ((with_reducible refine r_rep_n ?_ ?_); (focus omega)) | ((with_reducible refine r_rep_m ?_ ?_ ?_); (focus omega); (focus decreasing_trivial)) | with_reducible refine r_add_ii ?_)
local macro_rules | `(tactic| array_get_dec) => `(tactic| first | with_reducible refine r_and_one ?_ | with_reducible refine r_and_nn ?_ | with_reducible refine r_or_nn ?_ | with_reducible refine r_xor_nn ?_ | with_reducible refine r_lt_nn ?_ | with_reducible refine r_le_nn ?_ | with_reducible refine r_gt_nn ?_ | with_reducible refine r_ge_nn ?_ | with_reducible refine r_eq_nn ?_ | with_reducible refine r_ne_nn ?_)
local macro_rules | `(tactic| array_get_dec) => `(tactic| first | ((with_reducible refine r_mul_ss ?_ ?_ ?_); (focus omega); (focus omega)) | ((with_reducible refine r_mul_nn ?_ ?_); (focus omega)) | ((with_reducible refine r_imul_nn ?_ ?_); (focus omega)) | ((with_reducible refine r_fdv_nn ?_ ?_ ?_); (focus omega); (focus omega)) | ((with_reducible refine r_mod_nn ?_ ?_); (focus omega)) | ((with_reducible refine r_pow_nn ?_ ?_ ?_); (focus omega); (focus omega)) | ((with_reducible refine r_shl_one ?_ ?_); (focus omega)) | ((with_reducible refine r_shl_nn ?_ ?_); (focus omega)) | with_reducible refine r_shr_one ?_ | with_reducible refine r_shr_nn ?_)
local macro_rules | `(tactic| array_get_dec) => `(tactic| first | ((with_reducible apply o_frz2); (focus ((repeat (first | exact GetAt.zero | apply GetAt.succ)); done))) | ((with_reducible apply o_peek); (focus ((repeat (first | exact GetAt.zero | apply GetAt.succ)); done))) | ((with_reducible apply o_peek1); (focus ((repeat (first | exact GetAt.zero | apply GetAt.succ)); done))) | ((with_reducible apply o_peekB); (focus ((repeat (first | exact GetAt.zero | apply GetAt.succ)); done))) | ((with_reducible apply o_peekB1); (focus ((repeat (first | exact GetAt.zero | apply GetAt.succ)); done))) | ((with_reducible apply o_onOwn); (focus ((repeat (first | exact GetAt.zero | apply GetAt.succ)); done))) | ((with_reducible apply o_boxS); (focus ((repeat (first | exact GetAt.zero | apply GetAt.succ)); done))) | with_reducible refine r_add_nn ?_ | with_reducible refine r_iadd_nn ?_ | ((with_reducible refine r_sub_nn ?_ ?_); (focus omega)))
local macro_rules | `(tactic| array_get_dec) => `(tactic| first | with_reducible refine o_forB ?_ | with_reducible refine o_lcB ?_ | with_reducible refine o_wipeB0 ?_ | with_reducible refine o_wipeB1 ?_ | with_reducible refine o_wipeBm ?_ | with_reducible refine o_wipeBm0 ?_ | with_reducible refine o_lc2 ?_ | ((with_reducible apply o_aug); (focus ((repeat (first | exact GetAt.zero | apply GetAt.succ)); done))) | ((with_reducible apply o_frz); (focus ((repeat (first | exact GetAt.zero | apply GetAt.succ)); done))) | ((with_reducible apply o_frz1); (focus ((repeat (first | exact GetAt.zero | apply GetAt.succ)); done))))
local macro_rules | `(tactic| array_get_dec) => `(tactic| first | with_reducible refine o_bapp ?_ | with_reducible refine o_bpop0 ?_ | with_reducible refine o_bpop ?_ | with_reducible refine o_bins ?_ | with_reducible refine o_bext ?_ | with_reducible refine o_bput ?_ | with_reducible refine o_bset ?_ | with_reducible refine o_baug ?_ | with_reducible refine o_makeB ?_ | with_reducible refine o_makeB1 ?_)
local macro_rules | `(tactic| array_get_dec) => `(tactic| first | with_reducible refine o_lc1 ?_ | with_reducible refine r_two ?_ | with_reducible refine o_par ?_ | with_reducible refine o_rng3 ?_ | with_reducible refine r_ownX ?_ | with_reducible refine r_isTup ?_ | with_reducible refine o_index ?_ | with_reducible refine r_ls ?_ | with_reducible refine o_enumT ?_ | with_reducible refine o_box ?_)
local macro_rules | `(tactic| array_get_dec) => `(tactic| first | with_reducible refine o_make1 ?_ | with_reducible refine r_own ?_ | with_reducible refine r_b1 ?_ | with_reducible refine r_ownNe ?_ | with_reducible refine r_truO ?_ | with_reducible refine r_boolO ?_ | with_reducible refine o_ss ?_ | with_reducible refine o_raise0 ?_ | with_reducible refine o_raise ?_ | with_reducible refine o_lc0 ?_)
local macro_rules | `(tactic| array_get_dec) => `(tactic| first | with_reducible refine o_nop ?_ | with_reducible refine o_p ?_ | with_reducible refine r_sq_l ?_ | with_reducible refine r_sq_s ?_ | with_reducible refine r_tp ?_ | with_reducible refine o_seqI ?_ | with_reducible refine o_tupI ?_ | with_reducible refine o_gnil ?_ | with_reducible refine o_gcons ?_ | with_reducible refine o_call1 ?_)
local macro_rules | `(tactic| array_get_dec) => `(tactic| first | with_reducible refine o_cat ?_ | with_reducible refine o_list ?_ | with_reducible refine o_lc ?_ | with_reducible refine o_wipe0 ?_ | with_reducible refine o_wipe1 ?_ | with_reducible refine o_wipem ?_ | with_reducible refine o_wipem0 ?_ | with_reducible refine o_yes ?_ | with_reducible refine o_sl ?_ | with_reducible refine r_i ?_)
local macro_rules | `(tactic| array_get_dec) => `(tactic| first | with_reducible refine o_loop1 ?_ | with_reducible refine o_own ?_ | with_reducible refine o_zapp ?_ | with_reducible refine o_zput ?_ | with_reducible refine o_zixO ?_ | with_reducible refine o_rng1 ?_ | with_reducible refine o_rng2 ?_ | with_reducible refine o_enum ?_ | with_reducible refine o_zip ?_ | with_reducible refine o_rep ?_)
local macro_rules | `(tactic| array_get_dec) => `(tactic| first | with_reducible refine o_andV ?_ | with_reducible refine o_orV ?_ | with_reducible refine o_notV ?_ | with_reducible refine o_chain ?_ | with_reducible refine o_tru ?_ | with_reducible refine o_tup ?_ | with_reducible refine o_lst ?_ | with_reducible refine o_nlst ?_ | with_reducible refine o_for ?_ | with_reducible refine o_loop0 ?_)
local macro_rules | `(tactic| array_get_dec) => `(tactic| first | with_reducible refine r_meth ?_ | with_reducible refine o_prop ?_ | with_reducible refine r_propi ?_ | with_reducible refine o_sm ?_ | with_reducible refine o_make ?_ | with_reducible refine o_drop ?_ | with_reducible refine o_retN ?_ | with_reducible refine o_brk ?_ | with_reducible refine o_cnt ?_ | with_reducible refine o_ifE ?_)
local macro_rules | `(tactic| array_get_dec) => `(tactic| first | with_reducible refine w_bk ?_ | with_reducible refine w_ct ?_ | with_reducible refine e_nx ?_ | with_reducible refine e_rt ?_ | with_reducible refine e_bk ?_ | with_reducible refine e_ct ?_ | with_reducible refine e_nx0 ?_ | with_reducible refine e_rt0 ?_ | with_reducible refine o_call ?_ | with_reducible refine o_meth ?_)
local macro_rules | `(tactic| array_get_dec) => `(tactic| first | with_reducible refine r_bl ?_ | with_reducible refine o_and ?_ | with_reducible refine o_or ?_ | with_reducible refine o_not ?_ | with_reducible refine o_ret ?_ | with_reducible refine w_rt ?_ | with_reducible refine l_rt ?_ | with_reducible refine l_nx ?_ | with_reducible refine l_ct ?_ | with_reducible refine l_bk ?_)
local macro_rules | `(tactic| array_get_dec) => `(tactic| first | ((with_reducible apply o_var); (focus ((repeat (first | exact GetAt.zero | apply GetAt.succ)); done))) | ((with_reducible apply r_set); (focus (repeat (first | exact SetTo.zero | apply SetTo.succ)))) | with_reducible refine o_cons ?_ | with_reducible refine o_nil ?_ | with_reducible refine o_app ?_ | with_reducible refine r_n1 ?_ | with_reducible refine r_n2 ?_ | with_reducible refine o_un ?_ | with_reducible refine o_if ?_ | with_reducible refine o_tst ?_)
local macro_rules | `(tactic| array_get_dec) => `(tactic| first | with_reducible refine o_seq ?_ | with_reducible refine w_nx ?_ | with_reducible refine o_next ?_ | with_reducible refine o_asg ?_ | with_reducible refine o_nm ?_ | with_reducible refine o_bin ?_ | with_reducible refine o_c ?_)
local macro_rules | `(tactic| bv_omega) => `(tactic| (repeat array_get_dec))

section
set_option maxRecDepth 100000
set_option maxHeartbeats 2000000
def top (i : Nat) : Stmt := PySem.Challenge.pw_bitsback_k05_whole_products_told_back.main.body.getD i (.Pass ⟨0, 0, 0, 0⟩)
abbrev s_NoDivision___init__ : Stmt := inClass (top 5) 0
abbrev s_TooLarge___init__ : Stmt := inClass (top 6) 0
abbrev s_divided : Stmt := top 10
abbrev s_Poly___init__ : Stmt := inClass (top 12) 0
abbrev s_Poly_degree : Stmt := inClass (top 12) 1
abbrev s_l_start : Stmt := top 16
abbrev s_l_draw : Stmt := top 17
abbrev s_l_times : Stmt := top 18
abbrev s_l_divided : Stmt := top 19
abbrev s_l_counts : Stmt := top 23
abbrev s_l_primes : Stmt := top 20
abbrev s_l_row : Stmt := top 21
abbrev s_l_product : Stmt := top 22
abbrev s_Poly___floordiv__ : Stmt := inClass (top 12) 8
abbrev s_Poly___mod__ : Stmt := inClass (top 12) 9
abbrev s_gcd_of : Stmt := top 13
abbrev s_factors_of : Stmt := top 14
abbrev s_l_told : Stmt := top 24
abbrev s_law : Stmt := top 25
abbrev N_NoDivision___init__ : List Str := ["self"]
theorem sc_NoDivision___init__ : FnScope N_NoDivision___init__ ["self"] (defScope s_NoDivision___init__) := ⟨rfl, rfl, rfl, by decide +kernel, rfl, by decide +kernel, by decide +kernel⟩
abbrev N_TooLarge___init__ : List Str := ["self", "size"]
theorem sc_TooLarge___init__ : FnScope N_TooLarge___init__ ["self", "size"] (defScope s_TooLarge___init__) := ⟨rfl, rfl, rfl, by decide +kernel, rfl, by decide +kernel, by decide +kernel⟩
abbrev N_divided : List Str := ["one", "other", "quotient", "rest", "shift"]
theorem sc_divided : FnScope N_divided ["one", "other"] (defScope s_divided) := ⟨rfl, rfl, rfl, by decide +kernel, rfl, by decide +kernel, by decide +kernel⟩
abbrev N_Poly___init__ : List Str := ["self", "number"]
theorem sc_Poly___init__ : FnScope N_Poly___init__ ["self", "number"] (defScope s_Poly___init__) := ⟨rfl, rfl, rfl, by decide +kernel, rfl, by decide +kernel, by decide +kernel⟩
abbrev N_Poly_degree : List Str := ["self"]
theorem sc_Poly_degree : FnScope N_Poly_degree ["self"] (defScope s_Poly_degree) := ⟨rfl, rfl, rfl, by decide +kernel, rfl, by decide +kernel, by decide +kernel⟩
abbrev N_l_start : List Str := ["_law_script", "_law_first"]
theorem sc_l_start : FnScope N_l_start ["_law_script"] (defScope s_l_start) := ⟨rfl, rfl, rfl, by decide +kernel, rfl, by decide +kernel, by decide +kernel⟩
abbrev N_l_draw : List Str := ["_law_state", "_law_many", "_law_drawn", "_law_seed", "_law_mixed"]
theorem sc_l_draw : FnScope N_l_draw ["_law_state", "_law_many"] (defScope s_l_draw) := ⟨rfl, rfl, rfl, by decide +kernel, rfl, by decide +kernel, by decide +kernel⟩
abbrev N_l_times : List Str := ["_law_one", "_law_other", "_law_found", "_law_k"]
theorem sc_l_times : FnScope N_l_times ["_law_one", "_law_other"] (defScope s_l_times) := ⟨rfl, rfl, rfl, by decide +kernel, rfl, by decide +kernel, by decide +kernel⟩
abbrev N_l_divided : List Str := ["_law_one", "_law_other", "_law_quotient", "_law_rest", "_law_k"]
theorem sc_l_divided : FnScope N_l_divided ["_law_one", "_law_other"] (defScope s_l_divided) := ⟨rfl, rfl, rfl, by decide +kernel, rfl, by decide +kernel, by decide +kernel⟩
abbrev N_l_counts : List Str := ["_law_row_here", "_law_number"]
theorem sc_l_counts : FnScope N_l_counts ["_law_row_here"] (defScope s_l_counts) := ⟨rfl, rfl, rfl, by decide +kernel, rfl, by decide +kernel, by decide +kernel⟩
abbrev N_l_primes : List Str := ["_law_found", "_law_number", "_law_other"]
theorem sc_l_primes : FnScope N_l_primes [] (defScope s_l_primes) := ⟨rfl, rfl, rfl, by decide +kernel, rfl, by decide +kernel, by decide +kernel⟩
abbrev N_l_row : List Str := ["_law_state", "_law_primes_here", "_law_script", "_law_found", "_law_degrees", "_law_cell", "_law_prime"]
theorem sc_l_row : FnScope N_l_row ["_law_state", "_law_primes_here", "_law_script"] (defScope s_l_row) := ⟨rfl, rfl, rfl, by decide +kernel, rfl, by decide +kernel, by decide +kernel⟩
abbrev N_l_product : List Str := ["_law_row_here", "_law_found", "_law_number"]
theorem sc_l_product : FnScope N_l_product ["_law_row_here"] (defScope s_l_product) := ⟨rfl, rfl, rfl, by decide +kernel, rfl, by decide +kernel, by decide +kernel⟩
abbrev N_Poly___floordiv__ : List Str := ["self", "other"]
theorem sc_Poly___floordiv__ : FnScope N_Poly___floordiv__ ["self", "other"] (defScope s_Poly___floordiv__) := ⟨rfl, rfl, rfl, by decide +kernel, rfl, by decide +kernel, by decide +kernel⟩
abbrev N_Poly___mod__ : List Str := ["self", "other"]
theorem sc_Poly___mod__ : FnScope N_Poly___mod__ ["self", "other"] (defScope s_Poly___mod__) := ⟨rfl, rfl, rfl, by decide +kernel, rfl, by decide +kernel, by decide +kernel⟩
abbrev N_gcd_of : List Str := ["a", "b", "one", "other"]
theorem sc_gcd_of : FnScope N_gcd_of ["a", "b"] (defScope s_gcd_of) := ⟨rfl, rfl, rfl, by decide +kernel, rfl, by decide +kernel, by decide +kernel⟩
abbrev N_factors_of : List Str := ["a", "found", "rest", "number", "factor", "exponent"]
theorem sc_factors_of : FnScope N_factors_of ["a"] (defScope s_factors_of) := ⟨rfl, rfl, rfl, by decide +kernel, rfl, by decide +kernel, by decide +kernel⟩
abbrev N_l_told : List Str := ["_law_number", "_law_factor", "_law_exponent"]
theorem sc_l_told : FnScope N_l_told ["_law_number"] (defScope s_l_told) := ⟨rfl, rfl, rfl, by decide +kernel, rfl, by decide +kernel, by decide +kernel⟩
abbrev N_law : List Str := ["_law_script", "_law_state", "_law_primes_here", "_law_one", "_law_two", "_law_first", "_law_second", "_law_common", "_law_number", "_law_shared", "_law_rest", "_law_whole"]
theorem sc_law : FnScope N_law ["_law_script"] (defScope s_law) := ⟨rfl, rfl, rfl, by decide +kernel, rfl, by decide +kernel, by decide +kernel⟩
def fnm : Nat → List Str
  | 0 => ["number"]
  | 103 => []
  | 104 => ["size"]
  | _ => []
theorem ix_Poly_number : idx "number" (fnm 0) = some 0 := by decide +kernel
theorem nd_Poly : (fnm 0).Nodup := by decide +kernel
theorem ln_Poly : (fnm 0).length < 1000 := by decide +kernel
theorem nd_TooLarge : (fnm 104).Nodup := by decide +kernel
structure Tx (K : PySem.W.Frag) (mg : Str → Option Value) where
  z_int : mg "int" = none
  z_len : mg "len" = none
  z_list : mg "list" = none
  z_min : mg "min" = none
  z_range : mg "range" = none
  z_set : mg "set" = none
  z_sorted : mg "sorted" = none
  z_sum : mg "sum" = none
  kt_MOST : Tok
  k_MOST : mg "MOST" = some (.int ((24 : Nat) : Int) kt_MOST)
  c_Poly : Addr
  m_Poly : mg "Poly" = some (.ref c_Poly)
  cl_Poly : Cls K c_Poly
  c_BitsError : Addr
  m_BitsError : mg "BitsError" = some (.ref c_BitsError)
  rd_BitsError : PySem.W.readsIn K c_BitsError (.type "type") = true
  ga_BitsError : PySem.W.specialIn K (.ref c_BitsError) "__getattribute__" = some (some (.builtin "type.__getattribute__"))
  fi_BitsError : PySem.W.findCls K (.ref c_BitsError) (.type "type") "__init__" = some (.val (.builtin "ValueError.__init__"))
  c_NoDivision : Addr
  m_NoDivision : mg "NoDivision" = some (.ref c_NoDivision)
  ty_NoDivision : PySem.W.typeIn K (.ref c_NoDivision) = some (.type "type")
  hd_NoDivision : PySem.W.hasDictIn K c_NoDivision = true
  xb_NoDivision : PySem.W.subIn K (.ref c_NoDivision) (.type "BaseException") = some true
  ox_NoDivision : OexC K c_NoDivision
  c_TooLarge : Addr
  m_TooLarge : mg "TooLarge" = some (.ref c_TooLarge)
  ty_TooLarge : PySem.W.typeIn K (.ref c_TooLarge) = some (.type "type")
  hd_TooLarge : PySem.W.hasDictIn K c_TooLarge = true
  xb_TooLarge : PySem.W.subIn K (.ref c_TooLarge) (.type "BaseException") = some true
  ox_TooLarge : OexC K c_TooLarge
  nx_TooLarge_size : PySem.W.findIn K (.ref c_TooLarge) "size" = some none
  na_Poly_number : NoAttr K c_Poly "number"
  sf_Poly : PySem.W.selfFirst K c_Poly = true
  f_NoDivision___init__ : Addr
  d_NoDivision___init__ : FuncData
  F_NoDivision___init__ : Fun K "__init__" "NoDivision.__init__" s_NoDivision___init__ f_NoDivision___init__ d_NoDivision___init__
  b_NoDivision___init__ : Binds K d_NoDivision___init__ ["self"] []
  ii_NoDivision : PySem.W.findIn K (.ref c_NoDivision) "__init__" = some (some (.ref f_NoDivision___init__))
  it_NoDivision : PySem.W.typeIn K (.ref f_NoDivision___init__) = some (.type "function")
  f_TooLarge___init__ : Addr
  d_TooLarge___init__ : FuncData
  F_TooLarge___init__ : Fun K "__init__" "TooLarge.__init__" s_TooLarge___init__ f_TooLarge___init__ d_TooLarge___init__
  b_TooLarge___init__ : Binds K d_TooLarge___init__ ["self", "size"] []
  ii_TooLarge : PySem.W.findIn K (.ref c_TooLarge) "__init__" = some (some (.ref f_TooLarge___init__))
  it_TooLarge : PySem.W.typeIn K (.ref f_TooLarge___init__) = some (.type "function")
  f_divided : Addr
  d_divided : FuncData
  F_divided : Fun K "divided" "divided" s_divided f_divided d_divided
  b_divided : Binds K d_divided ["one", "other"] []
  m_divided : mg "divided" = some (.ref f_divided)
  f_Poly___init__ : Addr
  d_Poly___init__ : FuncData
  F_Poly___init__ : FunD K "__init__" "Poly.__init__" (defArgs s_Poly___init__) (defBody s_Poly___init__) (defScope s_Poly___init__) [V.int 0] [] f_Poly___init__ d_Poly___init__
  bd0_Poly___init__ : ∃ ds, Vals [] ds ∧ Binds K d_Poly___init__ ["self", "number"] ds
  bd1_Poly___init__ : ∃ ds, Vals [V.int 0] ds ∧ Binds K d_Poly___init__ ["self", "number"] ds
  mk_Poly : Mk K c_Poly f_Poly___init__
  f_Poly_degree : Addr
  d_Poly_degree : FuncData
  F_Poly_degree : Fun K "degree" "Poly.degree" s_Poly_degree f_Poly_degree d_Poly_degree
  b_Poly_degree : Binds K d_Poly_degree ["self"] []
  p_Poly_degree : Addr
  pr_Poly_degree : PropOf K c_Poly "degree" p_Poly_degree f_Poly_degree
  f_l_start : Addr
  d_l_start : FuncData
  F_l_start : Fun K "_law_start" "_law_start" s_l_start f_l_start d_l_start
  b_l_start : Binds K d_l_start ["_law_script"] []
  m_l_start : mg "_law_start" = some (.ref f_l_start)
  f_l_draw : Addr
  d_l_draw : FuncData
  F_l_draw : Fun K "_law_draw" "_law_draw" s_l_draw f_l_draw d_l_draw
  b_l_draw : Binds K d_l_draw ["_law_state", "_law_many"] []
  m_l_draw : mg "_law_draw" = some (.ref f_l_draw)
  f_l_times : Addr
  d_l_times : FuncData
  F_l_times : Fun K "_law_times" "_law_times" s_l_times f_l_times d_l_times
  b_l_times : Binds K d_l_times ["_law_one", "_law_other"] []
  m_l_times : mg "_law_times" = some (.ref f_l_times)
  f_l_divided : Addr
  d_l_divided : FuncData
  F_l_divided : Fun K "_law_divided" "_law_divided" s_l_divided f_l_divided d_l_divided
  b_l_divided : Binds K d_l_divided ["_law_one", "_law_other"] []
  m_l_divided : mg "_law_divided" = some (.ref f_l_divided)
  f_l_counts : Addr
  d_l_counts : FuncData
  F_l_counts : Fun K "_law_counts" "_law_counts" s_l_counts f_l_counts d_l_counts
  b_l_counts : Binds K d_l_counts ["_law_row_here"] []
  m_l_counts : mg "_law_counts" = some (.ref f_l_counts)
  f_l_primes : Addr
  d_l_primes : FuncData
  F_l_primes : Fun K "_law_primes" "_law_primes" s_l_primes f_l_primes d_l_primes
  b_l_primes : Binds K d_l_primes [] []
  m_l_primes : mg "_law_primes" = some (.ref f_l_primes)
  f_l_row : Addr
  d_l_row : FuncData
  F_l_row : Fun K "_law_row" "_law_row" s_l_row f_l_row d_l_row
  b_l_row : Binds K d_l_row ["_law_state", "_law_primes_here", "_law_script"] []
  m_l_row : mg "_law_row" = some (.ref f_l_row)
  f_l_product : Addr
  d_l_product : FuncData
  F_l_product : Fun K "_law_product" "_law_product" s_l_product f_l_product d_l_product
  b_l_product : Binds K d_l_product ["_law_row_here"] []
  m_l_product : mg "_law_product" = some (.ref f_l_product)
  f_Poly___floordiv__ : Addr
  d_Poly___floordiv__ : FuncData
  F_Poly___floordiv__ : Fun K "__floordiv__" "Poly.__floordiv__" s_Poly___floordiv__ f_Poly___floordiv__ d_Poly___floordiv__
  b_Poly___floordiv__ : Binds K d_Poly___floordiv__ ["self", "other"] []
  me_Poly___floordiv__ : Meth K c_Poly "__floordiv__" f_Poly___floordiv__
  ow_Poly___floordiv__ : OwnOp K c_Poly f_Poly___floordiv__ "__floordiv__"
  f_Poly___mod__ : Addr
  d_Poly___mod__ : FuncData
  F_Poly___mod__ : Fun K "__mod__" "Poly.__mod__" s_Poly___mod__ f_Poly___mod__ d_Poly___mod__
  b_Poly___mod__ : Binds K d_Poly___mod__ ["self", "other"] []
  me_Poly___mod__ : Meth K c_Poly "__mod__" f_Poly___mod__
  ow_Poly___mod__ : OwnOp K c_Poly f_Poly___mod__ "__mod__"
  f_gcd_of : Addr
  d_gcd_of : FuncData
  F_gcd_of : Fun K "gcd_of" "gcd_of" s_gcd_of f_gcd_of d_gcd_of
  b_gcd_of : Binds K d_gcd_of ["a", "b"] []
  m_gcd_of : mg "gcd_of" = some (.ref f_gcd_of)
  f_factors_of : Addr
  d_factors_of : FuncData
  F_factors_of : Fun K "factors_of" "factors_of" s_factors_of f_factors_of d_factors_of
  b_factors_of : Binds K d_factors_of ["a"] []
  m_factors_of : mg "factors_of" = some (.ref f_factors_of)
  f_l_told : Addr
  d_l_told : FuncData
  F_l_told : Fun K "_law_told" "_law_told" s_l_told f_l_told d_l_told
  b_l_told : Binds K d_l_told ["_law_number"] []
  m_l_told : mg "_law_told" = some (.ref f_l_told)
  f_law : Addr
  d_law : FuncData
  F_law : Fun K "law" "law" s_law f_law d_law
  b_law : Binds K d_law ["_law_script"] []
  m_law : mg "law" = some (.ref f_law)
def cmap {K : PySem.W.Frag} {mg : Str → Option Value} (T : Tx K mg) : Nat → Addr
  | 0 => T.c_Poly
  | 103 => T.c_NoDivision
  | 104 => T.c_TooLarge
  | _ => 0
abbrev pr {K : PySem.W.Frag} {mg : Str → Option Value} (T : Tx K mg) : Par := parA (cmap T) fnm
section
variable {P : Program} {w : World} {K : PySem.W.Frag} {mg : Str → Option Value} {base : Heap}
theorem ok_NoDivision (T : Tx K mg) : FnOk P w K mg base (L2.CX P w) 1 T.f_NoDivision___init__ T.d_NoDivision___init__ ["self"] (spX T.c_NoDivision []) := by
  refine T.F_NoDivision___init__.okX sc_NoDivision___init__ (fun vs H Q E h => ?_) (fun cdv A outer s H vs Q E hr h => ?_)
  · obtain ⟨a, ws, rfl, hl, _⟩ := h
    rw [List.length_cons, hl]; rfl
  · obtain ⟨a, ws, rfl, hl, ha, h0, h1⟩ := h
    refine ⟨_, (pss_one (ps_expr (pe_binit rfl T.m_BitsError T.rd_BitsError T.ga_BitsError T.fi_BitsError (pa_cons (pv 0) (pa_cons pe_str pa_nil))))), ?_⟩
    refine ⟨.ref a, rfl, a, T.c_NoDivision, [_], rfl, by decide, T.ox_NoDivision, ha, ?_⟩
    exact h0 rfl
theorem ok_TooLarge (T : Tx K mg) : FnOk P w K mg base (L2.CX P w) 1 T.f_TooLarge___init__ T.d_TooLarge___init__ ["self", "size"] (spX T.c_TooLarge ["size"]) := by
  refine T.F_TooLarge___init__.okX sc_TooLarge___init__ (fun vs H Q E h => ?_) (fun cdv A outer s H vs Q E hr h => ?_)
  · obtain ⟨a, ws, rfl, hl, _⟩ := h
    rw [List.length_cons, hl]; rfl
  · obtain ⟨a, ws, rfl, hl, ha, h0, h1⟩ := h
    obtain ⟨v1, rfl⟩ : ∃ v1, ws = [v1] := by match ws, hl with | [v1], _ => exact ⟨_, rfl⟩
    refine ⟨_, (pss_cons (ps_expr (pe_binit rfl T.m_BitsError T.rd_BitsError T.ga_BitsError T.fi_BitsError (pa_cons (pv 0) (pa_cons pe_str pa_nil)))) (pss_one (ps_ost (pv 0) (pv 1)))), ?_⟩
    refine ⟨.ref a, rfl, a, T.c_TooLarge, [_], rfl, by decide, T.ox_TooLarge, ha, ?_⟩
    refine ⟨v1, rfl, .ref a, rfl, a, T.c_TooLarge, rfl, T.ox_TooLarge, T.nx_TooLarge_size, Or.inl ⟨ha, fun dx n ne => ?_⟩⟩
    exact h1 (by simp) dx _ n ne upd_same (by rw [upd_ne ne, upd_same]; rfl) (fun b g1 g2 => by rw [upd_ne g1, upd_ne g2])
theorem ok_l_start0 (T : Tx K mg) : FnD (pr T) P w K mg base 1 T.f_l_start T.d_l_start ["_law_script"] D_start := by
  refine ⟨D_start_mono, T.F_l_start.okX sc_l_start (fun vs H Q E h => ?_) (fun cdv A outer s H vs Q E hr h => ?_)⟩
  · obtain ⟨W, ps, _, _, r, ns, rfl, _⟩ := h
    obtain ⟨v, rfl, _⟩ := r.one
    rfl
  · obtain ⟨W, ps, sm, bx, r, ns, rfl, hl, q⟩ := h
    obtain ⟨v, rfl, r1⟩ := r.one
    rw [rep_scr] at r1
    obtain ⟨sa, ys, rfl, hS, rl⟩ := r1
    have hys : ys = ns.map V.int := by
      have := ints?_rep (ints?_map ns) rl
      exact this
    subst hys
    have hS' := sqL_same sm hS
    refine ⟨_, pss_cons (ps_set (i := 1) sc_l_start.nd rfl (Or.inl rfl) pe_int)
      (pss_cons (ps_if (pt_cmpR op_gt (pe_callB call_len (by rfl) T.z_len bt_len (pa_cons (pv 0) pa_nil)) pe_int (nomark _))
        (pss_one (ps_set (i := 1) sc_l_start.nd rfl (Or.inl rfl) (pe_ix ix_list (pv 0) pe_int (fun _ _ => rfl))))
        pss_nil)
      (pss_one (ps_ret (pe_lst (pa_cons (pe_callTy call_list_of (by rfl) T.z_list bt_list (pa_cons (pv 0) pa_nil)) (pa_cons pe_int (pa_cons (pv 1) (pa_cons pe_int pa_nil)))))))), ?_⟩
    have fin := fun f => start_fin (ns := ns) sm bx q f
    refine ⟨.ref sa, rfl, _, ns.length, rfl, Or.inl ⟨_, hS', by simp⟩, _, _, rfl, rfl, _, rfl, ?_⟩
    refine ite2 (fun h => ?_) (fun h => ?_)
    · cases ns with
      | nil => exact absurd h (by simp)
      | cons z zs =>
        refine ⟨.ref sa, rfl, sa, _, 0, .int z, rfl, rfl, hS', at_zero _ _, ?_⟩
        exact ⟨.ref sa, rfl, sa, _, rfl, Or.inl hS', fun l hl => ⟨.int z, rfl, (by show 4 ≤ sizeLine; decide), fun p hp => fin z l hl p hp⟩⟩
    · exact ⟨.ref sa, rfl, sa, _, rfl, Or.inl hS', fun l hl => ⟨.int 0, rfl, (by show 4 ≤ sizeLine; decide), fun p hp => fin 0 l hl p hp⟩⟩
theorem ok_l_draw0 (T : Tx K mg) : FnD (pr T) P w K mg base 1 T.f_l_draw T.d_l_draw ["_law_state", "_law_many"] D_draw := by
  refine ⟨D_draw_mono, T.F_l_draw.okX sc_l_draw (fun vs H Q E h => ?_) (fun cdv A outer s H vs Q E hr h => ?_)⟩
  · obtain ⟨W, ps, _, _, r, m, rfl, _⟩ := h
    obtain ⟨v, u, rfl, _⟩ := r.two
    rfl
  · obtain ⟨W, ps, sm, bx, r, m, rfl, hm, hm2, hn, q⟩ := h
    obtain ⟨v, u, rfl, r1, r2⟩ := r.two
    rw [rep_box] at r1
    rw [rep_int] at r2
    obtain ⟨st, rfl, hb⟩ := r1
    subst r2
    obtain ⟨_, o, ho, ⟨_, a, i, r, c, rfl, ha, hi, hc0, hc⟩ | ⟨z, _⟩⟩ := bx st 0 hb
    rotate_left
    · omega
    obtain ⟨_, o2, ho2, ⟨_, ns, rfl⟩ | ⟨z, _⟩⟩ := bx a 1 ha
    rotate_left
    · omega
    have na : a ≠ st := fun e => by rw [e, hb] at ha; cases ha
    have fin : ∀ (H' : Hp) (i' r' m' : Int) (v : Nat), (∀ x, x ≠ st → H' x = H x) → H' st = some (.lst [.ref a, .int i', .int r', .int m']) → 0 ≤ i' → 0 ≤ m' → m' ≤ (W.c.n : Int) + 1 → (v : Int) < m → Q (.int v) H' :=
      fun H' i' r' m' v h1 h2 g1 g2 g3 hv => q v hv _ _ H' (draw_fin (K := K) sm bx hb ha h1 h2 g1 g2 g3) rfl (rep_int.2 rfl)
    refine ⟨_, pss_cons (ps_if (pt_cmpR op_ge (pe_ix ix_list (pv 0) pe_int (fun _ _ => rfl)) (pe_op op_pow pe_int pe_int) (nomark _))
        (pss_cons (ps_set (i := 2) sc_l_draw.nd rfl (Or.inl rfl) (pe_op op_mod (pe_callTy call_int1 (by rfl) T.z_int bt_int (pa_cons (pe_ix ix_list (pv 0) pe_int (fun _ _ => rfl)) pa_nil)) (pv 1)))
        (pss_cons (ps_asg (pe_op op_fdivW (pe_ix ix_list (pv 0) pe_int (fun _ _ => rfl)) (pv 1)) (pg_sub (pv 0) pe_int set_list))
        (pss_one (ps_ret (pv 2))))) pss_nil)
      (pss_cons (ps_asg (pe_op op_add (pe_ix ix_list (pv 0) pe_int (fun _ _ => rfl)) pe_int) (pg_sub (pv 0) pe_int set_list))
      (pss_cons (ps_set (i := 3) sc_l_draw.nd rfl (Or.inl rfl) (pe_op op_add (pe_op op_add (pe_op op_mod (pe_callTy call_int1 (by rfl) T.z_int bt_int (pa_cons (pe_ix ix_list (pv 0) pe_int (fun _ _ => rfl)) pa_nil)) pe_int) (pe_op op_mul pe_int (pe_ix ix_list (pv 0) pe_int (fun _ _ => rfl)))) pe_int))
      (pss_cons (ps_set (i := 4) sc_l_draw.nd rfl (Or.inl rfl) (pe_op op_mod (pe_op op_pow (pv 3) pe_int) pe_int))
      (pss_cons (ps_if (pt_cmpR op_lt (pe_ix ix_list (pv 0) pe_int (fun _ _ => rfl)) (pe_callB call_len (by rfl) T.z_len bt_len (pa_cons (pe_ix ix_list (pv 0) pe_int (fun _ _ => rfl)) pa_nil)) (nomark _))
        (pss_cons (ps_asg (pe_ix ix_list (pe_ix ix_list (pv 0) pe_int (fun _ _ => rfl)) (pe_ix ix_list (pv 0) pe_int (fun _ _ => rfl)) (fun _ _ => rfl)) (pg_sub (pv 0) pe_int set_list))
        (pss_one (ps_asg (pe_op op_add (pe_ix ix_list (pv 0) pe_int (fun _ _ => rfl)) pe_int) (pg_sub (pv 0) pe_int set_list)))) pss_nil)
      (pss_one (ps_ret (pe_op op_mod (pe_op op_fdivW (pe_callTy call_int1 (by rfl) T.z_int bt_int (pa_cons (pv 4) pa_nil)) pe_int) (pv 1)))))))), ?_⟩
    refine ⟨.ref st, rfl, st, _, 2, .int r, rfl, rfl, SqL.of ho, rfl, _, _, rfl, rfl, ⟨by decide, by decide, by decide⟩, _, _, rfl, rfl, _, rfl, ?_⟩
    refine ite2 (fun h => ?_) (fun h => ?_)
    · refine ⟨.ref st, rfl, st, _, 2, .int r, rfl, rfl, SqL.of ho, rfl, Or.inl ⟨_, rfl, .int m, rfl, _, _, rfl, rfl, hm, ?_⟩⟩
      refine ⟨.ref st, rfl, st, _, 2, .int r, rfl, rfl, SqL.of ho, rfl, .int m, rfl, _, _, rfl, rfl, ⟨hm, hm2⟩, ?_⟩
      refine ⟨.ref st, rfl, st, _, 2, 2, rfl, rfl, ho, rfl, _, rfl, ?_⟩
      have e1 : 0 ≤ r % m := Int.emod_nonneg _ (by omega)
      have e2 : r % m < m := Int.emod_lt_of_pos _ hm
      have := fin (upd H st (.lst ([V.ref a, .int i, .int r, .int c].set 2 (.int (r / m))))) i (r / m) c (r % m).toNat (fun x hx => upd_ne hx) upd_same hi hc0 (by omega) (by omega)
      rw [Int.toNat_of_nonneg e1] at this
      exact this
    · refine ⟨.ref st, rfl, st, _, 3, .int c, rfl, rfl, SqL.of ho, rfl, _, _, rfl, rfl, .ref st, rfl, st, _, 3, 3, rfl, rfl, ho, rfl, ?_⟩
      refine ⟨.ref st, rfl, st, _, 2, .int r, rfl, rfl, SqL.of upd_same, rfl, Or.inl ⟨_, rfl, _, _, rfl, rfl, (by show (0 : Int) < _; decide), ?_⟩⟩
      refine ⟨.ref st, rfl, st, _, 3, .int (c + 1), rfl, rfl, SqL.of upd_same, rfl, _, _, rfl, rfl, Or.inl ⟨by decide, by decide⟩, _, _, rfl, rfl, _, _, rfl, rfl, ?_⟩
      have e1 : 0 ≤ r % 1000000007 := Int.emod_nonneg _ (by decide)
      have e2 : r % 1000000007 < 1000000007 := Int.emod_lt_of_pos _ (by decide)
      refine ⟨_, rfl, _, _, rfl, rfl, ⟨by decide, by decide, by show ((_ : Int)).natAbs < _; omega⟩, _, _, rfl, rfl, (by show (0 : Int) < _; decide), ?_⟩
      have h1a : (upd H st (.lst ([V.ref a, .int i, .int r, .int c].set 3 (.int (c + 1))))) a = some (.lst (ns.map V.int)) := by rw [upd_ne na]; exact ho2
      refine ⟨.ref st, rfl, st, _, 1, .int i, rfl, rfl, SqL.of upd_same, rfl, .ref st, rfl, st, _, 0, .ref a, rfl, rfl, SqL.of upd_same, rfl, _, ns.length, rfl, Or.inl ⟨_, SqL.of h1a, by simp⟩, _, _, rfl, rfl, _, rfl, ?_⟩
      have e3 : 0 ≤ ((r % 1000000007 + 69621 * (c + 1) + 48271) ^ (17 : Int).toNat % 170141183460469231731687303715884105727) / 64 % m := Int.emod_nonneg _ (by omega)
      have e4 : ((r % 1000000007 + 69621 * (c + 1) + 48271) ^ (17 : Int).toNat % 170141183460469231731687303715884105727) / 64 % m < m := Int.emod_lt_of_pos _ hm
      refine ite2 (fun h => ?_) (fun h => ?_)
      · have hi2 : i < (ns.length : Int) := by simpa using h
        have hg : i.toNat < ns.length := by omega
        have hat : L2.atI (ns.map V.int) i = some (.int ns[i.toNat]) := by
          unfold L2.atI
          rw [List.length_map]
          unfold ixN
          rw [if_pos hi, if_pos hi2]
          simp [hg]
        refine ⟨.ref st, rfl, st, _, 0, .ref a, rfl, rfl, SqL.of upd_same, rfl, .ref st, rfl, st, _, 1, .int i, rfl, rfl, SqL.of upd_same, rfl, a, _, i, _, rfl, rfl, SqL.of h1a, hat, .ref st, rfl, st, _, 2, 2, rfl, rfl, upd_same, rfl, ?_⟩
        refine ⟨.ref st, rfl, st, _, 1, .int i, rfl, rfl, SqL.of upd_same, rfl, _, _, rfl, rfl, .ref st, rfl, st, _, 1, 1, rfl, rfl, upd_same, rfl, ?_⟩
        refine ⟨_, rfl, Or.inl ⟨_, rfl, _, _, rfl, rfl, ⟨by decide, by decide⟩, .int m, rfl, _, _, rfl, rfl, hm, ?_⟩⟩
        have := fin (upd (upd (upd H st (.lst ([V.ref a, .int i, .int r, .int c].set 3 (.int (c + 1))))) st (.lst ([V.ref a, .int i, .int r, .int (c + 1)].set 2 (.int ns[i.toNat])))) st (.lst ([V.ref a, .int i, .int ns[i.toNat], .int (c + 1)].set 1 (.int (i + 1))))) (i + 1) ns[i.toNat] (c + 1) (((r % 1000000007 + 69621 * (c + 1) + 48271) ^ (17 : Int).toNat % 170141183460469231731687303715884105727) / 64 % m).toNat (fun x hx => by rw [upd_ne hx, upd_ne hx, upd_ne hx]) upd_same (by omega) (by omega) (by omega) (by omega)
        rw [Int.toNat_of_nonneg e3] at this
        exact this
      · refine ⟨_, rfl, Or.inl ⟨_, rfl, _, _, rfl, rfl, ⟨by decide, by decide⟩, .int m, rfl, _, _, rfl, rfl, hm, ?_⟩⟩
        have := fin (upd H st (.lst ([V.ref a, .int i, .int r, .int c].set 3 (.int (c + 1))))) i r (c + 1) (((r % 1000000007 + 69621 * (c + 1) + 48271) ^ (17 : Int).toNat % 170141183460469231731687303715884105727) / 64 % m).toNat (fun x hx => upd_ne hx) upd_same (by omega) (by omega) (by omega) (by omega)
        rw [Int.toNat_of_nonneg e3] at this
        exact this
@[irreducible] def xStart : DSp := D_start
@[irreducible] def xDraw : DSp := D_draw
theorem ok_l_start (T : Tx K mg) : FnD (pr T) P w K mg base 1 T.f_l_start T.d_l_start ["_law_script"] xStart := by unfold xStart; exact ok_l_start0 T
theorem ok_l_draw (T : Tx K mg) : FnD (pr T) P w K mg base 1 T.f_l_draw T.d_l_draw ["_law_state", "_law_many"] xDraw := by unfold xDraw; exact ok_l_draw0 T
theorem use_start {ns : List Int} {Q : PV → Pd} {E : PX → Pd} {n : Ck} (h : ns.length ≤ 1000) (q : Q (.box 0) n) : xStart [.scr (ns.map .int)] Q E n := by
  unfold xStart; exact ⟨ns, rfl, h, q⟩
theorem use_draw {m : Nat} {Q : PV → Pd} {E : PX → Pd} {n : Ck} (h0 : 0 < m) (h : m < 2 ^ 300) (hn : n.n < 100000) (q : ∀ r : Nat, r < m → Q (.int r) (n.tick 1)) : xDraw [.box 0, .int m] Q E n := by
  unfold xDraw
  refine ⟨m, rfl, by omega, ?_, hn, fun r hr => q r (by omega)⟩
  show m.log2 < 9000
  exact Nat.lt_trans ((Nat.log2_lt (by omega)).2 h) (by decide)
end
end
section
set_option maxRecDepth 100000
set_option maxHeartbeats 2000000
abbrev pp (k : Nat) : PV := .ins 0 [.int (k : Int)]
section
variable {P : Program} {w : World} {K : PySem.W.Frag} {mg : Str → Option Value} {base : Heap}
@[irreducible] def D_divided : DSp := fun vs Q E n => ∃ (a b : Nat), vs = [.int a, .int b] ∧ ((b ≠ 0) ∧ (bl a ≤ 10000000) ∧ (bl b ≤ 10000000) ∧ (True)) ∧ Q (.tup [.int (qd a b : Nat), .int (rm a b : Nat)]) n
theorem D_divided_mono : MonoSp D_divided := fun vs Q Q' E E' n hq he h => by
  unfold D_divided at h ⊢
  obtain ⟨a, b, e0_, p, q⟩ := h
  exact ⟨a, b, e0_, p, hq _ _ q⟩
theorem use_divided {a b : Nat} {Q : PV → Pd} {E : PX → Pd} {n : Ck} (p1 : b ≠ 0) (p2 : bl a ≤ 10000000) (p3 : bl b ≤ 10000000) (q : Q (.tup [.int (qd a b : Nat), .int (rm a b : Nat)]) n) : D_divided [.int a, .int b] Q E n := by
  unfold D_divided
  exact ⟨a, b, rfl, ⟨p1, p2, p3, trivial⟩, q⟩
theorem ok_divided (T : Tx K mg) : FnD (pr T) P w K mg base 1 T.f_divided T.d_divided ["one", "other"] D_divided := by
  refine fnD T.F_divided sc_divided D_divided_mono (fun vs Q E n h => by unfold D_divided at h; obtain ⟨a, b, e0_, _⟩ := h; subst e0_; rfl) (fun cdv A outer s H E W Ex hr dx vs Q h => ?_)
  unfold D_divided at h
  obtain ⟨a, b, rfl, ⟨p1, p2, p3, _⟩, q⟩ := h
  refine ⟨_, (DSs.x (dss_cons (DS.x (ds_set 2 sc_divided.nd (xe_nat 0)) (congrArg (dAsg _) eNm))
      (DSs.x (dss_cons (DS.x (ds_set 3 sc_divided.nd (dv 0)) (congrArg (dAsg _) eNm))
      (DSs.x (dss_cons (ds_while dx (dt_cmp xop_ge (DE.x (de_bits (dv 3)) eBits) (DE.x (de_bits (dv 1)) eBits))
      (DSs.x (dss_cons (DS.x (ds_set 4 sc_divided.nd (de_bin xop_sub (DE.x (de_bits (dv 3)) eBits) (DE.x (de_bits (dv 1)) eBits))) (congrArg (dAsg _) eNm))
      (DSs.x (dss_cons (DS.x (ds_set 2 sc_divided.nd (de_bin xop_xor (dv 2) (de_bin xop_shl (xe_nat 1) (dv 4)))) (congrArg (dAsg _) eNm))
      (DSs.x (dss_cons (DS.x (ds_set 3 sc_divided.nd (de_bin xop_xor (dv 3) (de_bin xop_shl (dv 1) (dv 4)))) (congrArg (dAsg _) eNm))
      dss_nil) eSeq)) eSeq)) eSeq))
      (DSs.x (dss_cons (ds_ret (de_tup (da_cons (dv 2) (da_cons (dv 3) da_nil))))
      dss_nil) eSeq)) eSeq)) eSeq)) eSeq), ?_⟩
  refine r_start (ρ' := [.fz (.int a), .fz (.int b), .no, .no, .no]) rfl ?_
  bv_omega
  refine r_while (fun (x : Nat × Nat × Slot) => [.fz (.int a), .fz (.int b), .fz (.int x.1), .fz (.int x.2.1), x.2.2]) (fun x => bl x.2.1 ≤ bl a ∧ a = cm x.1 b ^^^ x.2.1) (fun x => bl x.2.1) (0, a, .no) rfl ⟨Nat.le_refl _, by simp [cm_zero_l]⟩ (fun ⟨u, r, s⟩ Nx ⟨h1, h2⟩ k => ?_)
  dsimp only at h1 h2 k
  bv_omega
  refine r_if (fun h => ?_) (fun h => ?_)
  · bv_omega
    exact k (u ^^^ 2 ^ (bl r - bl b), r ^^^ b * 2 ^ (bl r - bl b), _) (div_less p1 h) ⟨Nat.le_of_lt (Nat.lt_of_lt_of_le (div_less p1 h) h1), div_step h2 _⟩
  · bv_omega
    obtain ⟨e1, e2⟩ := qr_eq p1 h2 (Nat.lt_of_not_le h)
    rw [e1, e2] at q
    exact q
@[irreducible] def D_Poly___init__ : DSi := fun vs Q E n => ∃ (k : Nat), vs = [.int k] ∧ ((True)) ∧ Q ([.int k]) n
theorem D_Poly___init___mono : MonoSi D_Poly___init__ := fun vs Q Q' E E' n hq he h => by
  unfold D_Poly___init__ at h ⊢
  obtain ⟨k, e0_, p, q⟩ := h
  exact ⟨k, e0_, p, hq _ _ q⟩
theorem use_Poly___init__ {k : Nat} {Q : List PV → Pd} {E : PX → Pd} {n : Ck}  (q : Q ([.int k]) n) : D_Poly___init__ [.int k] Q E n := by
  unfold D_Poly___init__
  exact ⟨k, rfl, trivial, q⟩
theorem ok_Poly___init__ (T : Tx K mg) : FnI (pr T) P w K mg base 1 T.f_Poly___init__ T.d_Poly___init__ ["self", "number"] 0 D_Poly___init__ := by
  refine fnID T.F_Poly___init__ sc_Poly___init__ D_Poly___init___mono (fun vs Q E n h => by unfold D_Poly___init__ at h; obtain ⟨k, e0_, _⟩ := h; subst e0_; rfl) (by decide) (fun cdv A outer s H Hb E W Ex hr dx x vs Q h => ?_)
  unfold D_Poly___init__ at h
  obtain ⟨k, rfl, _, q⟩ := h
  refine ⟨_, (DSs.x (dss_cons (DS.x (ds_if (dt_cmp xop_lt (dv 1) (xe_nat 0))
      dss_never
      dss_nil) eIf)
      (DSs.x (dss_cons (DS.x (ds_self 0 (ok := fun c => c = 0) (dv 1) rfl (fun c h => h ▸ ⟨T.cl_Poly, T.na_Poly_number, nd_Poly, ln_Poly⟩)) eSelf)
      dss_nil) eSeq)) eSeq), ?_⟩
  refine r_start (ρ' := [.slf x 0 [], .fz (.int k)]) rfl ?_
  bv_omega
  exact q
theorem mk_poly {k : Nat} {Q : List PV → Pd} {E : PX → Pd} {n : Ck} (q : Q [.int k] n) : D_Poly___init__ [.int k] Q E n := use_Poly___init__ q
@[irreducible] def D_Poly_degree : DSp := fun vs Q E n => ∃ (k : Nat), vs = [pp k] ∧ ((True)) ∧ Q (.int ((bl k : Int) - 1)) n
theorem D_Poly_degree_mono : MonoSp D_Poly_degree := fun vs Q Q' E E' n hq he h => by
  unfold D_Poly_degree at h ⊢
  obtain ⟨k, e0_, p, q⟩ := h
  exact ⟨k, e0_, p, hq _ _ q⟩
theorem use_Poly_degree {k : Nat} {Q : PV → Pd} {E : PX → Pd} {n : Ck}  (q : Q (.int ((bl k : Int) - 1)) n) : D_Poly_degree [pp k] Q E n := by
  unfold D_Poly_degree
  exact ⟨k, rfl, trivial, q⟩
theorem ok_Poly_degree (T : Tx K mg) : FnD (pr T) P w K mg base 1 T.f_Poly_degree T.d_Poly_degree ["self"] D_Poly_degree := by
  refine fnD T.F_Poly_degree sc_Poly_degree D_Poly_degree_mono (fun vs Q E n h => by unfold D_Poly_degree at h; obtain ⟨k, e0_, _⟩ := h; subst e0_; rfl) (fun cdv A outer s H E W Ex hr dx vs Q h => ?_)
  unfold D_Poly_degree at h
  obtain ⟨k, rfl, _, q⟩ := h
  refine ⟨_, (DSs.x (dss_cons (ds_ret (de_bin xop_sub (DE.x (de_bits (de_f 0 0 (dv 0) ix_Poly_number T.cl_Poly T.na_Poly_number)) eBits) (xe_nat 1)))
      dss_nil) eSeq), ?_⟩
  refine r_start (ρ' := [.fz (pp k)]) rfl ?_
  bv_omega
  exact q
@[irreducible] def D_Poly___floordiv__ : DSp := fun vs Q E n => ∃ (a b : Nat), vs = [pp a, pp b] ∧ ((b ≠ 0) ∧ (bl a ≤ 10000000) ∧ (bl b ≤ 10000000) ∧ (True)) ∧ Q (pp (qd a b)) n
theorem D_Poly___floordiv___mono : MonoSp D_Poly___floordiv__ := fun vs Q Q' E E' n hq he h => by
  unfold D_Poly___floordiv__ at h ⊢
  obtain ⟨a, b, e0_, p, q⟩ := h
  exact ⟨a, b, e0_, p, hq _ _ q⟩
theorem use_Poly___floordiv__ {a b : Nat} {Q : PV → Pd} {E : PX → Pd} {n : Ck} (p1 : b ≠ 0) (p2 : bl a ≤ 10000000) (p3 : bl b ≤ 10000000) (q : Q (pp (qd a b)) n) : D_Poly___floordiv__ [pp a, pp b] Q E n := by
  unfold D_Poly___floordiv__
  exact ⟨a, b, rfl, ⟨p1, p2, p3, trivial⟩, q⟩
theorem ok_Poly___floordiv__ (T : Tx K mg) : FnD (pr T) P w K mg base 3 T.f_Poly___floordiv__ T.d_Poly___floordiv__ ["self", "other"] D_Poly___floordiv__ := by
  refine fnD T.F_Poly___floordiv__ sc_Poly___floordiv__ D_Poly___floordiv___mono (fun vs Q E n h => by unfold D_Poly___floordiv__ at h; obtain ⟨a, b, e0_, _⟩ := h; subst e0_; rfl) (fun cdv A outer s H E W Ex hr dx vs Q h => ?_)
  unfold D_Poly___floordiv__ at h
  obtain ⟨a, b, rfl, ⟨p1, p2, p3, _⟩, q⟩ := h
  refine ⟨_, (DSs.x (dss_cons (DS.x (ds_if (dt_not (dt_truth xtru (de_f 0 0 (dv 1) ix_Poly_number T.cl_Poly T.na_Poly_number)))
      dss_never
      dss_nil) eIf)
      (DSs.x (dss_cons (ds_ret (de_mkD (dvs := []) (dps := []) (ok_Poly___init__ T) T.mk_Poly (hr.mono (by decide)) T.m_Poly T.bd0_Poly___init__ dx (da_cons (DE.x (de_ix (de_fn (ok_divided T) (hr.mono (by decide)) T.m_divided T.F_divided.kp T.b_divided dx (da_cons (de_f 0 0 (dv 0) ix_Poly_number T.cl_Poly T.na_Poly_number) (da_cons (de_f 0 0 (dv 1) ix_Poly_number T.cl_Poly T.na_Poly_number) da_nil))) (xe_nat 0)) eIx) da_nil) no_dps))
      dss_nil) eSeq)) eSeq), ?_⟩
  refine r_start (ρ' := [.fz (pp a), .fz (pp b)]) rfl ?_
  bv_omega
  refine use_divided p1 p2 p3 ?_
  bv_omega
  refine mk_poly ?_
  bv_omega
  exact q
theorem mk_pdiv {a b : Nat} {Q : PV → Pd} {E : PX → Pd} {n : Ck} (h : b ≠ 0) (p1 : bl a ≤ 10000000) (p2 : bl b ≤ 10000000) (q : Q (pp (qd a b)) n) : D_Poly___floordiv__ [pp a, pp b] Q E n := use_Poly___floordiv__ h p1 p2 q
@[irreducible] def D_Poly___mod__ : DSp := fun vs Q E n => ∃ (a b : Nat), vs = [pp a, pp b] ∧ ((b ≠ 0) ∧ (bl a ≤ 10000000) ∧ (bl b ≤ 10000000) ∧ (True)) ∧ Q (pp (rm a b)) n
theorem D_Poly___mod___mono : MonoSp D_Poly___mod__ := fun vs Q Q' E E' n hq he h => by
  unfold D_Poly___mod__ at h ⊢
  obtain ⟨a, b, e0_, p, q⟩ := h
  exact ⟨a, b, e0_, p, hq _ _ q⟩
theorem use_Poly___mod__ {a b : Nat} {Q : PV → Pd} {E : PX → Pd} {n : Ck} (p1 : b ≠ 0) (p2 : bl a ≤ 10000000) (p3 : bl b ≤ 10000000) (q : Q (pp (rm a b)) n) : D_Poly___mod__ [pp a, pp b] Q E n := by
  unfold D_Poly___mod__
  exact ⟨a, b, rfl, ⟨p1, p2, p3, trivial⟩, q⟩
theorem ok_Poly___mod__ (T : Tx K mg) : FnD (pr T) P w K mg base 3 T.f_Poly___mod__ T.d_Poly___mod__ ["self", "other"] D_Poly___mod__ := by
  refine fnD T.F_Poly___mod__ sc_Poly___mod__ D_Poly___mod___mono (fun vs Q E n h => by unfold D_Poly___mod__ at h; obtain ⟨a, b, e0_, _⟩ := h; subst e0_; rfl) (fun cdv A outer s H E W Ex hr dx vs Q h => ?_)
  unfold D_Poly___mod__ at h
  obtain ⟨a, b, rfl, ⟨p1, p2, p3, _⟩, q⟩ := h
  refine ⟨_, (DSs.x (dss_cons (DS.x (ds_if (dt_not (dt_truth xtru (de_f 0 0 (dv 1) ix_Poly_number T.cl_Poly T.na_Poly_number)))
      dss_never
      dss_nil) eIf)
      (DSs.x (dss_cons (ds_ret (de_mkD (dvs := []) (dps := []) (ok_Poly___init__ T) T.mk_Poly (hr.mono (by decide)) T.m_Poly T.bd0_Poly___init__ dx (da_cons (DE.x (de_ix (de_fn (ok_divided T) (hr.mono (by decide)) T.m_divided T.F_divided.kp T.b_divided dx (da_cons (de_f 0 0 (dv 0) ix_Poly_number T.cl_Poly T.na_Poly_number) (da_cons (de_f 0 0 (dv 1) ix_Poly_number T.cl_Poly T.na_Poly_number) da_nil))) (xe_nat 1)) eIx) da_nil) no_dps))
      dss_nil) eSeq)) eSeq), ?_⟩
  refine r_start (ρ' := [.fz (pp a), .fz (pp b)]) rfl ?_
  bv_omega
  refine use_divided p1 p2 p3 ?_
  bv_omega
  refine mk_poly ?_
  bv_omega
  exact q
theorem mk_pmod {a b : Nat} {Q : PV → Pd} {E : PX → Pd} {n : Ck} (h : b ≠ 0) (p1 : bl a ≤ 10000000) (p2 : bl b ≤ 10000000) (q : Q (pp (rm a b)) n) : D_Poly___mod__ [pp a, pp b] Q E n := use_Poly___mod__ h p1 p2 q
@[irreducible] def D_gcd_of : DSp := fun vs Q E n => ∃ (a b : Nat), vs = [pp a, pp b] ∧ ((bl a ≤ 10000000) ∧ (bl b ≤ 10000000) ∧ (True)) ∧ Q (pp (gc a b)) n
theorem D_gcd_of_mono : MonoSp D_gcd_of := fun vs Q Q' E E' n hq he h => by
  unfold D_gcd_of at h ⊢
  obtain ⟨a, b, e0_, p, q⟩ := h
  exact ⟨a, b, e0_, p, hq _ _ q⟩
theorem use_gcd_of {a b : Nat} {Q : PV → Pd} {E : PX → Pd} {n : Ck} (p1 : bl a ≤ 10000000) (p2 : bl b ≤ 10000000) (q : Q (pp (gc a b)) n) : D_gcd_of [pp a, pp b] Q E n := by
  unfold D_gcd_of
  exact ⟨a, b, rfl, ⟨p1, p2, trivial⟩, q⟩
theorem ok_gcd_of (T : Tx K mg) : FnD (pr T) P w K mg base 3 T.f_gcd_of T.d_gcd_of ["a", "b"] D_gcd_of := by
  refine fnD T.F_gcd_of sc_gcd_of D_gcd_of_mono (fun vs Q E n h => by unfold D_gcd_of at h; obtain ⟨a, b, e0_, _⟩ := h; subst e0_; rfl) (fun cdv A outer s H E W Ex hr dx vs Q h => ?_)
  unfold D_gcd_of at h
  obtain ⟨a, b, rfl, ⟨p1, p2, _⟩, q⟩ := h
  refine ⟨_, (DSs.x (dss_cons (DS.x (ds_set 2 sc_gcd_of.nd (de_f 0 0 (dv 0) ix_Poly_number T.cl_Poly T.na_Poly_number)) (congrArg (dAsg _) eNm))
      (DSs.x (dss_cons (DS.x (ds_set 3 sc_gcd_of.nd (de_f 0 0 (dv 1) ix_Poly_number T.cl_Poly T.na_Poly_number)) (congrArg (dAsg _) eNm))
      (DSs.x (dss_cons (ds_while dx (dt_truth xtru (dv 3))
      (DSs.x (dss_cons (DS.x (ds_par2 2 3 dx sc_gcd_of.nd (da_cons (dv 3) (da_cons (DE.x (de_ix (de_fn (ok_divided T) (hr.mono (by decide)) T.m_divided T.F_divided.kp T.b_divided dx (da_cons (dv 2) (da_cons (dv 3) da_nil))) (xe_nat 1)) eIx) da_nil))) ePar)
      dss_nil) eSeq))
      (DSs.x (dss_cons (ds_ret (de_mkD (dvs := []) (dps := []) (ok_Poly___init__ T) T.mk_Poly (hr.mono (by decide)) T.m_Poly T.bd0_Poly___init__ dx (da_cons (dv 2) da_nil) no_dps))
      dss_nil) eSeq)) eSeq)) eSeq)) eSeq), ?_⟩
  refine r_start (ρ' := [.fz (pp a), .fz (pp b), .no, .no]) rfl ?_
  bv_omega
  refine r_while (fun (x : Nat × Nat) => [.fz (pp a), .fz (pp b), .fz (.int x.1), .fz (.int x.2)]) (fun x => bl x.1 ≤ 10000000 ∧ bl x.2 ≤ 10000000 ∧ gc x.1 x.2 = gc a b) (fun x => bl x.2) (a, b) rfl ⟨p1, p2, rfl⟩ (fun ⟨u, v⟩ Nx ⟨h1, h2, h3⟩ k => ?_)
  dsimp only at h1 h2 h3 k
  bv_omega
  refine r_if (fun h => ?_) (fun h => ?_)
  · bv_omega
    refine use_divided h h1 h2 ?_
    bv_omega
    exact k (v, rm u v) (rm_lt h) ⟨h2, Nat.le_trans (Nat.le_of_lt (rm_lt h)) h2, by rw [gc_step h]; exact h3⟩
  · bv_omega
    refine mk_poly ?_
    bv_omega
    have e : v = 0 := by omega
    subst e
    rw [gc_zero] at h3
    rw [← h3] at q
    exact q
end
end
section
set_option maxRecDepth 100000
set_option maxHeartbeats 2000000
local macro_rules | `(tactic| array_get_dec) => `(tactic| first | ((with_reducible refine r_rng3neg ?_ ?_); (focus omega)))
theorem horner {a b k : Nat} : cm a (b / 2 ^ k) = if b / 2 ^ k % 2 = 0 then 2 * cm a (b / 2 ^ (k + 1)) else a ^^^ 2 * cm a (b / 2 ^ (k + 1)) := by
  rw [Nat.pow_succ, ← Nat.div_div_eq_div_mul]
  rcases Nat.mod_two_eq_zero_or_one (b / 2 ^ k) with h | h
  · rw [if_pos h, cm_even _ _ h]
  · rw [if_neg (by omega), cm_odd _ _ h]
theorem top_bit {r m : Nat} (h : bl r = m + 1) : r / 2 ^ m % 2 = 1 := by
  have h1 : ¬ r < 2 ^ m := fun z => by have := bl_le z; omega
  have h2 := lt_bl r
  rw [h, Nat.pow_succ] at h2
  have : r / 2 ^ m = 1 := by
    refine Nat.div_eq_of_lt_le ?_ ?_ <;> omega
  rw [this]
theorem or_low {v k : Nat} : v * 2 ^ (k + 1) ||| 2 ^ k = (2 * v + 1) * 2 ^ k := by
  have := Nat.two_pow_add_eq_or_of_lt (i := k + 1) (b := 2 ^ k) (Nat.pow_lt_pow_right (by decide) (by omega)) v
  rw [Nat.mul_comm v, ← this, Nat.pow_succ, Nat.add_mul, Nat.one_mul]
  congr 1
  rw [Nat.mul_assoc, Nat.mul_comm (2 ^ k)]
theorem xor_low {v k : Nat} : v * 2 ^ (k + 1) ^^^ 2 ^ k = (2 * v + 1) * 2 ^ k := by
  rw [← or_low]
  apply Nat.eq_of_testBit_eq
  intro i
  rw [Nat.testBit_xor, Nat.testBit_or, Nat.testBit_mul_two_pow, Nat.testBit_two_pow]
  by_cases h : k = i
  · subst h; simp
  · simp [h]
theorem div_pass {a b u r k : Nat} (hb : b ≠ 0) (e : a = cm u b ^^^ r) (hr : bl r ≤ bl b + k) :
    (r / 2 ^ (k + bl b - 1) % 2 ≠ 0 → a = cm (u ^^^ 2 ^ k) b ^^^ (r ^^^ b * 2 ^ k) ∧ bl (r ^^^ b * 2 ^ k) < bl b + k) ∧ (¬ r / 2 ^ (k + bl b - 1) % 2 ≠ 0 → bl r < bl b + k) := by
  have b0 := bl_pos hb
  refine ⟨fun h => ⟨div_step e k, ?_⟩, fun h => ?_⟩
  · have : bl r = bl b + k := by
      refine Classical.byContradiction fun c => h ?_
      have : r < 2 ^ (k + bl b - 1) := bl_lt_iff.1 (by omega)
      rw [Nat.div_eq_of_lt this]
    have h2 := div_less (r := r) hb (by omega)
    rw [show bl r - bl b = k by omega] at h2
    omega
  · refine Classical.byContradiction fun c => h ?_
    have : bl r = (k + bl b - 1) + 1 := by omega
    rw [top_bit this]; decide
section
variable {P : Program} {w : World} {K : PySem.W.Frag} {mg : Str → Option Value} {base : Heap}
@[irreducible] def D_l_times : DSp := fun vs Q E n => ∃ (a b : Nat), vs = [.int a, .int b] ∧ ((bl a ≤ 100000) ∧ (bl b ≤ 100000) ∧ (True)) ∧ Q (.int (cm a b : Nat)) n
theorem D_l_times_mono : MonoSp D_l_times := fun vs Q Q' E E' n hq he h => by
  unfold D_l_times at h ⊢
  obtain ⟨a, b, e0_, p, q⟩ := h
  exact ⟨a, b, e0_, p, hq _ _ q⟩
theorem use_l_times {a b : Nat} {Q : PV → Pd} {E : PX → Pd} {n : Ck} (p1 : bl a ≤ 100000) (p2 : bl b ≤ 100000) (q : Q (.int (cm a b : Nat)) n) : D_l_times [.int a, .int b] Q E n := by
  unfold D_l_times
  exact ⟨a, b, rfl, ⟨p1, p2, trivial⟩, q⟩
theorem ok_l_times (T : Tx K mg) : FnD (pr T) P w K mg base 1 T.f_l_times T.d_l_times ["_law_one", "_law_other"] D_l_times := by
  refine fnD T.F_l_times sc_l_times D_l_times_mono (fun vs Q E n h => by unfold D_l_times at h; obtain ⟨a, b, e0_, _⟩ := h; subst e0_; rfl) (fun cdv A outer s H E W Ex hr dx vs Q h => ?_)
  unfold D_l_times at h
  obtain ⟨a, b, rfl, ⟨p1, p2, _⟩, q⟩ := h
  refine ⟨_, (DSs.x (dss_cons (DS.x (ds_set 2 sc_l_times.nd (xe_nat 0)) (congrArg (dAsg _) eNm))
      (DSs.x (dss_cons (ds_for dx (di_range3 T.z_range (da_cons (de_bin xop_sub (DE.x (de_bits (dv 1)) eBits) (xe_nat 1)) (da_cons (de_un xun_neg (xe_nat 1)) (da_cons (de_un xun_neg (xe_nat 1)) da_nil)))) (DG.x (dg_name 3 sc_l_times.nd) eNm)
      (DSs.x (dss_cons (DS.x (ds_set 2 sc_l_times.nd (de_bin xop_shl (dv 2) (xe_nat 1))) (congrArg (dAsg _) eNm))
      (DSs.x (dss_cons (DS.x (ds_if (dt_truth xtru (de_bin xop_and (de_bin xop_shr (dv 1) (dv 3)) (xe_nat 1)))
      (DSs.x (dss_cons (DS.x (ds_set 2 sc_l_times.nd (de_bin xop_xor (dv 2) (dv 0))) (congrArg (dAsg _) eNm))
      dss_nil) eSeq)
      dss_nil) eIf)
      dss_nil) eSeq)) eSeq))
      (DSs.x (dss_cons (ds_ret (dv 2))
      dss_nil) eSeq)) eSeq)) eSeq), ?_⟩
  refine r_start (ρ' := [.fz (.int a), .fz (.int b), .no, .no]) rfl ?_
  bv_omega
  refine r_forS (fun i s => [.fz (.int a), .fz (.int b), .fz (.int (cm a (b / 2 ^ (bl b - i)) : Nat)), s]) (by rw [Nat.sub_zero, (Nat.div_eq_zero_iff_lt (Nat.two_pow_pos _)).2 (lt_bl b), cm_zero] <;> rfl) (fun i m s Nx hm kk => ?_) (fun s => ?_)
  · have hi : i < bl b := by
      have := (List.getElem?_eq_some_iff.mp hm).1
      rw [List.length_reverse, List.length_range] at this; exact this
    rw [List.getElem?_reverse (by rw [List.length_range]; exact hi), List.length_range, List.getElem?_range (by omega)] at hm
    have hm := Option.some.inj hm
    have h1 := @horner a b m
    have h2 := bl_cm_le a (b / 2 ^ (bl b - i))
    have h3 : bl (b / 2 ^ (bl b - i)) ≤ bl b := bl_le (Nat.lt_of_le_of_lt (Nat.div_le_self _ _) (lt_bl b))
    rw [show m + 1 = bl b - i by omega] at h1
    rw [show bl b - (i + 1) = m by omega] at kk
    bv_omega
    refine r_if (fun h => ?_) (fun h => ?_)
    · bv_omega
      rw [if_neg h] at h1
      rw [h1, Nat.xor_comm, Nat.mul_comm] at kk
      exact kk _
    · bv_omega
      rw [if_pos (by omega)] at h1
      rw [h1, Nat.mul_comm] at kk
      exact kk _
  · bv_omega
    rw [List.length_reverse, List.length_range, Nat.sub_self, Nat.pow_zero, Nat.div_one]
    exact q
@[irreducible] def D_l_divided : DSp := fun vs Q E n => ∃ (a b : Nat), vs = [.int a, .int b] ∧ ((b ≠ 0) ∧ (bl a ≤ 100000) ∧ (bl b ≤ 100000) ∧ (True)) ∧ Q (.tup [.int (qd a b : Nat), .int (rm a b : Nat)]) n
theorem D_l_divided_mono : MonoSp D_l_divided := fun vs Q Q' E E' n hq he h => by
  unfold D_l_divided at h ⊢
  obtain ⟨a, b, e0_, p, q⟩ := h
  exact ⟨a, b, e0_, p, hq _ _ q⟩
theorem use_l_divided {a b : Nat} {Q : PV → Pd} {E : PX → Pd} {n : Ck} (p1 : b ≠ 0) (p2 : bl a ≤ 100000) (p3 : bl b ≤ 100000) (q : Q (.tup [.int (qd a b : Nat), .int (rm a b : Nat)]) n) : D_l_divided [.int a, .int b] Q E n := by
  unfold D_l_divided
  exact ⟨a, b, rfl, ⟨p1, p2, p3, trivial⟩, q⟩
theorem ok_l_divided (T : Tx K mg) : FnD (pr T) P w K mg base 1 T.f_l_divided T.d_l_divided ["_law_one", "_law_other"] D_l_divided := by
  refine fnD T.F_l_divided sc_l_divided D_l_divided_mono (fun vs Q E n h => by unfold D_l_divided at h; obtain ⟨a, b, e0_, _⟩ := h; subst e0_; rfl) (fun cdv A outer s H E W Ex hr dx vs Q h => ?_)
  unfold D_l_divided at h
  obtain ⟨a, b, rfl, ⟨p1, p2, p3, _⟩, q⟩ := h
  refine ⟨_, (DSs.x (dss_cons (DS.x (ds_set 2 sc_l_divided.nd (xe_nat 0)) (congrArg (dAsg _) eNm))
      (DSs.x (dss_cons (DS.x (ds_set 3 sc_l_divided.nd (dv 0)) (congrArg (dAsg _) eNm))
      (DSs.x (dss_cons (ds_for dx (di_range3 T.z_range (da_cons (de_bin xop_sub (DE.x (de_bits (dv 0)) eBits) (DE.x (de_bits (dv 1)) eBits)) (da_cons (de_un xun_neg (xe_nat 1)) (da_cons (de_un xun_neg (xe_nat 1)) da_nil)))) (DG.x (dg_name 4 sc_l_divided.nd) eNm)
      (DSs.x (dss_cons (DS.x (ds_if (dt_truth xtru (de_bin xop_and (de_bin xop_shr (dv 3) (de_bin xop_sub (de_bin xop_add (dv 4) (DE.x (de_bits (dv 1)) eBits)) (xe_nat 1))) (xe_nat 1)))
      (DSs.x (dss_cons (DS.x (ds_set 3 sc_l_divided.nd (de_bin xop_xor (dv 3) (de_bin xop_shl (dv 1) (dv 4)))) (congrArg (dAsg _) eNm))
      (DSs.x (dss_cons (DS.x (ds_set 2 sc_l_divided.nd (de_bin xop_or (dv 2) (de_bin xop_shl (xe_nat 1) (dv 4)))) (congrArg (dAsg _) eNm))
      dss_nil) eSeq)) eSeq)
      dss_nil) eIf)
      dss_nil) eSeq))
      (DSs.x (dss_cons (ds_ret (de_tup (da_cons (dv 2) (da_cons (dv 3) da_nil))))
      dss_nil) eSeq)) eSeq)) eSeq)) eSeq), ?_⟩
  refine r_start (ρ' := [.fz (.int a), .fz (.int b), .no, .no, .no]) rfl ?_
  have b0 := bl_pos p1
  by_cases c : bl a < bl b
  · bv_omega
    obtain ⟨e1, e2⟩ := rm_small c
    rw [e1, e2] at q
    exact q
  · bv_omega
    refine r_forH (fun (x : Nat × Nat × Slot) => [.fz (.int a), .fz (.int b), .fz (.int x.1), .fz (.int x.2.1), x.2.2])
      (fun i x m => m = W.c ∧ a = cm x.1 b ^^^ x.2.1 ∧ bl x.2.1 + i ≤ bl a ∧ ∃ v, x.1 = v * 2 ^ (bl a - bl b + 1 - i)) (0, a, _) rfl ⟨rfl, by rw [cm_zero_l, Nat.zero_xor], Nat.le_refl _, 0, by rw [Nat.zero_mul]⟩ (fun i k ⟨u, r, s⟩ m Nx hk ⟨hm, h1, h2, v, h3⟩ kk => ?_) (fun ⟨u, r, s⟩ m ⟨hm, h1, h2, v, h3⟩ => ?_)
    · have hi : i < bl a - bl b + 1 := by
        have := (List.getElem?_eq_some_iff.mp hk).1
        rw [List.length_reverse, List.length_range] at this; exact this
      rw [List.getElem?_reverse (by rw [List.length_range]; exact hi), List.length_range, List.getElem?_range (by omega)] at hk
      have hk := Option.some.inj hk
      dsimp only at h1 h2 h3
      subst hm
      have h4 := div_pass (k := k) p1 h1 (by omega)
      rw [show bl a - bl b + 1 - i = k + 1 by omega] at h3
      bv_omega
      refine r_if (fun h => ?_) (fun h => ?_)
      · obtain ⟨e1, e2⟩ := h4.1 h
        bv_omega
        refine kk (u ||| 2 ^ k, r ^^^ b * 2 ^ k, _) _ ⟨rfl, ?_, by dsimp only; omega, 2 * v + 1, ?_⟩
        · dsimp only
          rw [h3, or_low, ← xor_low, ← h3]; exact e1
        · dsimp only
          rw [h3, or_low, show bl a - bl b + 1 - (i + 1) = k by omega]
      · have e2 := h4.2 h
        bv_omega
        refine kk (u, r, .fz (.int (k : Nat))) _ ⟨rfl, h1, by dsimp only; omega, 2 * v, ?_⟩
        dsimp only
        rw [h3, show bl a - bl b + 1 - (i + 1) = k by omega, Nat.pow_succ, Nat.mul_comm (2 ^ k) 2, ← Nat.mul_assoc, Nat.mul_comm v 2]
    · rw [List.length_reverse, List.length_range] at h2
      dsimp only at h1 h2 ⊢
      subst hm
      bv_omega
      obtain ⟨e1, e2⟩ := qr_eq p1 h1 (by omega)
      rw [e1, e2] at q
      exact q
end
end
section
set_option maxRecDepth 100000
set_option maxHeartbeats 2000000
theorem mk_deg {k : Nat} {Q : PV → Pd} {E : PX → Pd} {n : Ck} (h : 1 ≤ bl k) (q : Q (.int (bl k - 1 : Nat)) n) : D_Poly_degree [pp k] Q E n := use_Poly_degree (by rw [show ((bl k : Int) - 1) = ((bl k - 1 : Nat) : Int) by omega]; exact q)
section
variable {P : Program} {w : World} {K : PySem.W.Frag} {mg : Str → Option Value} {base : Heap}
end
end
section
set_option maxRecDepth 100000
set_option maxHeartbeats 4000000
local macro_rules | `(tactic| array_get_dec) => `(tactic| first | with_reducible refine mk_poly ?_ | ((with_reducible refine mk_deg ?_ ?_); (focus omega)) | ((with_reducible refine mk_pdiv ?_ ?_ ?_ ?_); (focus omega); (focus omega); (focus omega)) | ((with_reducible refine mk_pmod ?_ ?_ ?_ ?_); (focus omega); (focus omega); (focus omega)))
abbrev ft (p : Nat × Nat) : PV := .tup [pp p.1, .int p.2]
abbrev NNL := List (Nat × Nat)
section
variable {P : Program} {w : World} {K : PySem.W.Frag} {mg : Str → Option Value} {base : Heap}
@[irreducible] def D_factors_of : DSp := fun vs Q E n => ∃ (A : Nat), vs = [pp A] ∧ ((bl A ≤ 1000) ∧ (True)) ∧ (A = 0 → E ⟨103, []⟩ n) ∧ (A ≠ 0 → 25 < bl A → E ⟨104, [.int (bl A - 1 : Nat)]⟩ n) ∧ (A ≠ 0 → bl A ≤ 25 → ∀ (l : NNL) (k : Nat) (m : Ck), FR A l → m.n = n.n → m.isL k (l.map ft) → Q (.box k) m)
theorem D_factors_of_mono : MonoSp D_factors_of := fun vs Q Q' E E' n hq he h => by
  unfold D_factors_of at h ⊢
  obtain ⟨A, e0_, p, q⟩ := h
  exact ⟨A, e0_, p, by exact (And.imp (fun g => by intros; first | (apply hq; apply g <;> assumption) | (apply he; apply g <;> assumption)) (And.imp (fun g => by intros; first | (apply hq; apply g <;> assumption) | (apply he; apply g <;> assumption)) (fun g => by intros; first | (apply hq; apply g <;> assumption) | (apply he; apply g <;> assumption)))) q⟩
theorem use_factors_of {A : Nat} {Q : PV → Pd} {E : PX → Pd} {n : Ck} (p1 : bl A ≤ 1000) (q : (A = 0 → E ⟨103, []⟩ n) ∧ (A ≠ 0 → 25 < bl A → E ⟨104, [.int (bl A - 1 : Nat)]⟩ n) ∧ (A ≠ 0 → bl A ≤ 25 → ∀ (l : NNL) (k : Nat) (m : Ck), FR A l → m.n = n.n → m.isL k (l.map ft) → Q (.box k) m)) : D_factors_of [pp A] Q E n := by
  unfold D_factors_of
  exact ⟨A, rfl, ⟨p1, trivial⟩, q⟩
theorem ok_factors_of (T : Tx K mg) : FnD (pr T) P w K mg base 4 T.f_factors_of T.d_factors_of ["a"] D_factors_of := by
  refine fnD T.F_factors_of sc_factors_of D_factors_of_mono (fun vs Q E n h => by unfold D_factors_of at h; obtain ⟨A, e0_, _⟩ := h; subst e0_; rfl) (fun cdv A outer s H E W Ex hr dx vs Q h => ?_)
  unfold D_factors_of at h
  obtain ⟨A, rfl, ⟨p1, _⟩, q⟩ := h
  refine ⟨_, (DSs.x (dss_cons (DS.x (ds_if (dt_not (dt_truth xtru (de_f 0 0 (dv 0) ix_Poly_number T.cl_Poly T.na_Poly_number)))
      (DSs.x (dss_cons (ds_raise0 (c := 103) dx rfl (pmk_z T.ox_NoDivision T.ii_NoDivision T.it_NoDivision (ok_NoDivision T) (hr.mono (by decide)) T.b_NoDivision___init__ pass_no rfl T.m_NoDivision))
      dss_nil) eSeq)
      dss_nil) eIf)
      (DSs.x (dss_cons (DS.x (ds_if (dt_cmp xop_gt (de_pr (c := 0) (dv 0) T.cl_Poly T.pr_Poly_degree (ok_Poly_degree T) (hr.mono (by decide)) T.b_Poly_degree) (de_gint T.k_MOST))
      (DSs.x (dss_cons (ds_raise (c := 104) (k := 1) dx (da_cons (de_pr (c := 0) (dv 0) T.cl_Poly T.pr_Poly_degree (ok_Poly_degree T) (hr.mono (by decide)) T.b_Poly_degree) da_nil) rfl (by decide) (by decide) nd_TooLarge (fun h => pmk_oex T.ox_TooLarge T.ii_TooLarge T.it_TooLarge (ok_TooLarge T) (hr.mono (by decide)) T.b_TooLarge___init__ .nil pass_no rfl T.m_TooLarge h))
      dss_nil) eSeq)
      dss_nil) eIf)
      (DSs.x (dss_cons (DS.x (ds_set 1 sc_factors_of.nd (DNw.box (dn_disp da_nil))) (congrArg (dAsg _) eNm))
      (DSs.x (dss_cons (DS.x (ds_set 2 sc_factors_of.nd (dv 0)) (congrArg (dAsg _) eNm))
      (DSs.x (dss_cons (DS.x (ds_set 3 sc_factors_of.nd (xe_nat 2)) (congrArg (dAsg _) eNm))
      (DSs.x (dss_cons (ds_while dx (dt_cmp xop_gt (de_pr (c := 0) (dv 2) T.cl_Poly T.pr_Poly_degree (ok_Poly_degree T) (hr.mono (by decide)) T.b_Poly_degree) (xe_nat 0))
      (DSs.x (dss_cons (DS.x (ds_set 4 sc_factors_of.nd (de_mkD (dvs := []) (dps := []) (ok_Poly___init__ T) T.mk_Poly (hr.mono (by decide)) T.m_Poly T.bd0_Poly___init__ dx (da_cons (dv 3) da_nil) no_dps)) (congrArg (dAsg _) eNm))
      (DSs.x (dss_cons (DS.x (ds_if (dt_cmp xop_gt (de_bin xop_mul (xe_nat 2) (de_pr (c := 0) (dv 4) T.cl_Poly T.pr_Poly_degree (ok_Poly_degree T) (hr.mono (by decide)) T.b_Poly_degree)) (de_pr (c := 0) (dv 2) T.cl_Poly T.pr_Poly_degree (ok_Poly_degree T) (hr.mono (by decide)) T.b_Poly_degree))
      (DSs.x (dss_cons (DS.x (ds_set 4 sc_factors_of.nd (dv 2)) (congrArg (dAsg _) eNm))
      dss_nil) eSeq)
      dss_nil) eIf)
      (DSs.x (dss_cons (DS.x (ds_set 5 sc_factors_of.nd (xe_nat 0)) (congrArg (dAsg _) eNm))
      (DSs.x (dss_cons (ds_while dx (dt_not (dt_truth xtru (de_f 0 0 (de_bin (dop_own (c := 0) (ok_Poly___mod__ T) (hr.mono (by decide)) T.b_Poly___mod__ T.ow_Poly___mod__ T.sf_Poly) (dv 2) (dv 4)) ix_Poly_number T.cl_Poly T.na_Poly_number)))
      (DSs.x (dss_cons (DS.x (ds_set 2 sc_factors_of.nd (de_bin (dop_own (c := 0) (ok_Poly___floordiv__ T) (hr.mono (by decide)) T.b_Poly___floordiv__ T.ow_Poly___floordiv__ T.sf_Poly) (dv 2) (dv 4))) (congrArg (dAsg _) eNm))
      (DSs.x (dss_cons (DS.x (ds_aug 5 sc_factors_of.nd xiop_add (xe_nat 1)) eAug)
      dss_nil) eSeq)) eSeq))
      (DSs.x (dss_cons (DS.x (ds_if (dt_truth xtru (dv 5))
      (DSs.x (dss_cons (ds_expr (de_bapp (dv 1) (de_tup (da_cons (dv 4) (da_cons (dv 5) da_nil)))))
      dss_nil) eSeq)
      dss_nil) eIf)
      (DSs.x (dss_cons (DS.x (ds_aug 3 sc_factors_of.nd xiop_add (xe_nat 1)) eAug)
      dss_nil) eSeq)) eSeq)) eSeq)) eSeq)) eSeq)) eSeq))
      (DSs.x (dss_cons (ds_ret (dv 1))
      dss_nil) eSeq)) eSeq)) eSeq)) eSeq)) eSeq)) eSeq)) eSeq), ?_⟩
  refine r_start (ρ' := [.fz (pp A), .no, .no, .no, .no, .no]) rfl ?_
  have p2 := p1
  obtain ⟨q0, q1, q2⟩ := q
  bv_omega
  refine r_nf (fun c0 => ?_) (fun p1 => ?_)
  · have c0 : A = 0 := Classical.byContradiction c0
    bv_omega
    exact q0 c0
  have b0 := bl_pos p1
  bv_omega
  refine r_if (fun c => ?_) (fun c => ?_)
  · bv_omega
    exact q1 p1 (by omega)
  · have q := q2 p1 (by omega)
    bv_omega
    refine r_whileH (γ := List (Nat × Nat) × Nat × Nat × Slot × Slot) (fun x => [.fz (pp A), .fz (.box (W.c.nx + 10)), .fz (pp x.2.1), .fz (.int x.2.2.1), x.2.2.2.1, x.2.2.2.2]) (fun x m => FI A x.1 x.2.1 x.2.2.1 ∧ m.n = W.c.n ∧ m.isL (W.c.nx + 10) (x.1.map ft)) (fun x => if bl x.2.1 ≤ 1 then 0 else 2 ^ 25 - x.2.2.1) ([], A, 2, .no, .no) rfl ⟨FI.start p1, rfl, isL_new⟩ (fun x m1 Nx hJ kk => ?_)
    obtain ⟨l, R, N, s1, s2⟩ := x
    obtain ⟨hI, hm1, hL1⟩ := hJ
    have hL1 : m1.isL (W.c.nx + 10) (l.map ft) := hL1
    dsimp only at hI kk ⊢
    have hb := hI.bound
    have hA := hI.2.1
    have hR0 := hI.1
    have hN2 := hI.2.2.1
    have r0 := bl_pos hR0
    have e2 : bl 2 = 2 := by decide
    have hN3 : 2 ≤ bl N := Nat.le_of_not_lt fun z => by
      have := lt_of_bl (a := N) (b := 2) (by omega)
      omega
    bv_omega
    refine r_if (fun hR => ?_) (fun hR => ?_)
    · have hb := hb (by omega)
      rw [if_neg (by omega)] at kk
      have hNR : bl N ≤ bl R := Nat.le_of_not_lt fun z => by
        have := lt_of_bl z
        omega
      have hR25 : R < 2 ^ 25 := bl_lt_iff.1 (by omega)
      bv_omega
      refine r_if (fun c => ?_) (fun c => ?_)
      · have hF : R = N ∨ (R = R ∧ bl R - 1 < 2 * (bl N - 1)) := .inr ⟨rfl, by omega⟩
        have hF0 : R ≠ 0 := by omega
        have hF2 : 2 ≤ bl R := by omega
        bv_omega
        refine r_while (fun (x : Nat × Nat) => [.fz (pp A), .fz (.box (W.c.nx + 10)), .fz (pp x.1), .fz (.int N), .fz (pp R), .fz (.int x.2)]) (fun x => x.1 ≠ 0 ∧ bl x.1 ≤ bl R ∧ R = cm (pwo R x.2) x.1) (fun x => bl x.1) (R, 0) rfl ⟨hR0, Nat.le_refl _, by show R = cm 1 R; rw [cm_one_l]⟩ (fun ⟨M, e⟩ Mx ⟨h1, h2, h3⟩ km => ?_)
        dsimp only at h1 h2 h3 km ⊢
        bv_omega
        refine r_nf (fun g => ?_) (fun g => ?_)
        · have hd : dvd R M := (rm_eq_zero hF0).1 (by omega)
          have h4 := qd_less hF2 h1 hd
          bv_omega
          exact km (qd M R, e + 1) h4.1 ⟨h4.2, by dsimp only; omega, pass_div hF0 h3 hd⟩
        · have hd : ¬ dvd R M := fun z => g ((rm_eq_zero hF0).2 z)
          bv_omega
          refine r_if (fun he => ?_) (fun he => ?_)
          · have h5 := hI.take (by omega) hF h3 hd he
            bv_omega
            rw [show l.map ft ++ [PV.tup [pp R, .int (e : Nat)]] = (l ++ [(R, e)]).map ft by rw [List.map_append]; rfl]
            exact kk (l ++ [(R, e)], M, N + 1, _, _) _ (by dsimp only; split <;> omega) ⟨h5, hm1, isL_put hL1⟩
          · have he : e = 0 := by omega
            subst he
            have h6 : R = M := by rw [h3]; exact cm_one_l M
            subst h6
            try exact absurd (dvd_self _) hd
            all_goals
              bv_omega
              exact kk (l, R, N + 1, _, _) _ (by dsimp only; rw [if_neg (by omega)]; omega) ⟨hI.skip hd, hm1, hL1⟩
      · have hF : N = N ∨ (N = R ∧ bl R - 1 < 2 * (bl N - 1)) := .inl rfl
        have hF0 : N ≠ 0 := by omega
        have hF2 : 2 ≤ bl N := by omega
        bv_omega
        refine r_while (fun (x : Nat × Nat) => [.fz (pp A), .fz (.box (W.c.nx + 10)), .fz (pp x.1), .fz (.int N), .fz (pp N), .fz (.int x.2)]) (fun x => x.1 ≠ 0 ∧ bl x.1 ≤ bl R ∧ R = cm (pwo N x.2) x.1) (fun x => bl x.1) (R, 0) rfl ⟨hR0, Nat.le_refl _, by show R = cm 1 R; rw [cm_one_l]⟩ (fun ⟨M, e⟩ Mx ⟨h1, h2, h3⟩ km => ?_)
        dsimp only at h1 h2 h3 km ⊢
        bv_omega
        refine r_nf (fun g => ?_) (fun g => ?_)
        · have hd : dvd N M := (rm_eq_zero hF0).1 (by omega)
          have h4 := qd_less hF2 h1 hd
          bv_omega
          exact km (qd M N, e + 1) h4.1 ⟨h4.2, by dsimp only; omega, pass_div hF0 h3 hd⟩
        · have hd : ¬ dvd N M := fun z => g ((rm_eq_zero hF0).2 z)
          bv_omega
          refine r_if (fun he => ?_) (fun he => ?_)
          · have h5 := hI.take (by omega) hF h3 hd he
            bv_omega
            rw [show l.map ft ++ [PV.tup [pp N, .int (e : Nat)]] = (l ++ [(N, e)]).map ft by rw [List.map_append]; rfl]
            exact kk (l ++ [(N, e)], M, N + 1, _, _) _ (by dsimp only; split <;> omega) ⟨h5, hm1, isL_put hL1⟩
          · have he : e = 0 := by omega
            subst he
            have h6 : R = M := by rw [h3]; exact cm_one_l M
            subst h6
            try exact absurd (dvd_self _) hd
            all_goals
              bv_omega
              exact kk (l, R, N + 1, _, _) _ (by dsimp only; rw [if_neg (by omega)]; omega) ⟨hI.skip hd, hm1, hL1⟩
    · have q := q l _ m1 (hI.fin (by omega)) hm1 hL1
      bv_omega
      exact q
end
end
section
set_option maxRecDepth 100000
set_option maxHeartbeats 4000000
abbrev ep (p : Nat × Nat) : PV := .tup [.int (p.1 : Nat), .int (p.2 : Nat)]
theorem dg_len : ∀ {l : List (Nat × Nat)}, (∀ p ∈ l, Irr p.1 ∧ 1 ≤ p.2) → l.length ≤ dg l
  | [], _ => Nat.le_refl _
  | p :: l, h => by
    have h1 := (h p List.mem_cons_self).1.1
    have h2 := dg_len (l := l) fun x hx => h x (List.mem_cons_of_mem _ hx)
    show l.length + 1 ≤ (bl p.1 - 1) + dg l
    omega
theorem nodup_len : ∀ {a b : List Nat}, a.Nodup → (∀ x ∈ a, x ∈ b) → a.length ≤ b.length
  | [], _, _, _ => Nat.zero_le _
  | x :: a, b, h, hb => by
    obtain ⟨h1, h2⟩ := List.nodup_cons.1 h
    have hx := hb x List.mem_cons_self
    have := nodup_len (a := a) (b := b.erase x) h2 fun y hy => (List.mem_erase_of_ne fun e : y = x => h1 (by rw [← e]; exact hy)).2 (hb y (List.mem_cons_of_mem _ hy))
    rw [List.length_erase_of_mem hx] at this
    have := List.length_pos_of_mem hx
    rw [List.length_cons]; omega
theorem sum_le5 {r : List Nat} : (∀ x ∈ r, bl x - 1 ≤ 5) → (r.map fun x => bl x - 1).sum ≤ 5 * r.length := fun h => by
  induction r with
  | nil => exact Nat.le_refl _
  | cons x r ih =>
    have h1 := h x List.mem_cons_self
    have h2 := ih fun y hy => h y (List.mem_cons_of_mem _ hy)
    rw [List.map_cons, List.sum_cons, List.length_cons]; omega
def rmC : Nat → Nat → Nat → Nat
  | 0, a, _ => a
  | n + 1, a, b => if bl a < bl b then a else rmC n (a ^^^ b * 2 ^ (bl a - bl b)) b
theorem rmC_mod {b : Nat} (hb : b ≠ 0) : ∀ n a, rm (rmC n a b) b = rm a b
  | 0, _ => rfl
  | n + 1, a => by
    unfold rmC
    split
    · rfl
    · rw [rmC_mod hb n, ← cm_pow, cm_comm b, Nat.xor_comm, rm_mul hb]
theorem rmC_small : ∀ a ∈ List.range 64, ∀ b ∈ List.range 64, 2 ≤ b → bl (rmC 8 a b) < bl b := by decide +kernel
theorem rmC_eq {a b : Nat} (ha : a < 64) (hb : b < 64) (h2 : 2 ≤ b) : rm a b = rmC 8 a b := by
  have h := rmC_small a (List.mem_range.2 ha) b (List.mem_range.2 hb) h2
  rw [← rmC_mod (by omega) 8 a]
  exact (rm_small h).1
def svL : Nat → List Nat
  | 0 => []
  | i + 1 => if ((svL i).filter fun o => decide (rmC 8 (i + 2) o = 0)) = [] then svL i ++ [i + 2] else svL i
def prm : List Nat := [2, 3, 7, 11, 13, 19, 25, 31, 37, 41, 47, 55, 59, 61]
theorem svL_succ (i : Nat) : svL (i + 1) = if ((svL i).filter fun o => decide (rmC 8 (i + 2) o = 0)) = [] then svL i ++ [i + 2] else svL i := rfl
theorem svL_in : ∀ i, ∀ x ∈ svL i, 2 ≤ x ∧ x < i + 2
  | 0, x, h => by cases h
  | i + 1, x, h => by
    rw [svL_succ] at h
    split at h
    · rcases List.mem_append.1 h with h | h
      · have := svL_in i x h; omega
      · rw [List.mem_singleton.1 h]; omega
    · have := svL_in i x h; omega
theorem svL_len : ∀ i, (svL i).length ≤ i
  | 0 => Nat.le_refl _
  | i + 1 => by
    have := svL_len i
    rw [svL_succ]
    split
    · rw [List.length_append]; simp only [List.length_cons, List.length_nil]; omega
    · omega
theorem svL_all : svL 62 = prm := by decide +kernel
theorem prm_irr : ∀ x ∈ prm, Irr x ∧ bl x ≤ 6 := fun x hx => by
  have h : ∀ x ∈ prm, 2 ≤ x ∧ x < 64 ∧ bl x ≤ 6 ∧ ∀ d ∈ List.range x, 2 ≤ d → rmC 8 x d ≠ 0 := by decide +kernel
  obtain ⟨h1, h2, h3, h4⟩ := h x hx
  refine ⟨clr_irr (by omega) (fun d g1 g2 g3 => ?_) h1 (dvd_self x), h3⟩
  refine h4 d (List.mem_range.2 g2) g1 ?_
  rw [← rmC_eq h2 (by omega) g1]
  exact (rm_eq_zero (by omega)).2 g3
theorem ok_i {i : Int} {d : Nat} : (PV.int i).okD d = true := by cases d <;> rfl
theorem oks_nl : ∀ l : List Nat, PV.okDs 59 (nl l) = true
  | [] => rfl
  | a :: l => by
    show ((PV.int (a : Int)).okD 59 && PV.okDs 59 (nl l)) = true
    rw [ok_i, oks_nl l]; rfl
theorem r_eqN0 {l : List Nat} {Q : PV → Pd} {n : Ck} (q : Q (.bl (decide (l = []))) n) : xEq (.lst (l.map fun b : Nat => PV.int (b : Int))) (.lst []) Q n := by
  unfold xEq
  refine ⟨⟨ok_lst (d := 59) (oks_nl l), rfl⟩, ?_⟩
  cases l with
  | nil => exact q
  | cons a l =>
    rw [decide_eq_false (by simp)] at q
    exact q
local macro_rules | `(tactic| array_get_dec) => `(tactic| first | with_reducible refine mk_poly ?_ | ((with_reducible refine use_l_times ?_ ?_ ?_); (focus omega); (focus omega)) | ((with_reducible refine use_l_divided ?_ ?_ ?_ ?_); (focus omega); (focus omega); (focus omega)) | with_reducible refine o_countL ?_ | with_reducible refine r_count0 ?_ | with_reducible refine r_countL ?_ | with_reducible refine o_slS ?_)
section
variable {P : Program} {w : World} {K : PySem.W.Frag} {mg : Str → Option Value} {base : Heap}
@[irreducible] def D_l_primes : DSp := fun vs Q E n => vs = [] ∧ ((True) ∧ (True)) ∧ Q (.lst (nl prm)) n
theorem D_l_primes_mono : MonoSp D_l_primes := fun vs Q Q' E E' n hq he h => by
  unfold D_l_primes at h ⊢
  obtain ⟨e0_, p, q⟩ := h
  exact ⟨e0_, p, hq _ _ q⟩
theorem use_l_primes  {Q : PV → Pd} {E : PX → Pd} {n : Ck} (p1 : True) (q : Q (.lst (nl prm)) n) : D_l_primes [] Q E n := by
  unfold D_l_primes
  exact ⟨rfl, ⟨p1, trivial⟩, q⟩
theorem ok_l_primes (T : Tx K mg) : FnD (pr T) P w K mg base 2 T.f_l_primes T.d_l_primes [] D_l_primes := by
  refine fnD T.F_l_primes sc_l_primes D_l_primes_mono (fun vs Q E n h => by unfold D_l_primes at h; obtain ⟨e0_, _⟩ := h; subst e0_; rfl) (fun cdv A outer s H E W Ex hr dx vs Q h => ?_)
  unfold D_l_primes at h
  obtain ⟨rfl, ⟨p1, _⟩, q⟩ := h
  refine ⟨_, (DSs.x (dss_cons (DS.x (ds_own 0 sc_l_primes.nd (dn_disp da_nil)) (eOwn rfl))
      (DSs.x (dss_cons (ds_for dx (DI.x (di_range2 T.z_range (da_cons (xe_nat 2) (da_cons (xe_nat 64) da_nil))) eRng2) (DG.x (dg_name 1 sc_l_primes.nd) eNm)
      (DSs.x (dss_cons (DS.x (ds_if (DTs.x (dt_peek 0 (dt_cmp (xop_eq hr.units) (DNw.de (DNw.x (dn_comp (own := [("_law_other", 2)]) s dx sc_l_primes.nd (di_list (dv 0)) (blkOk_by (N := N_l_primes) (sc := defScope s_l_primes) (by decide +kernel)) (fun s H C cl fp dx => ⟨(DGn.x (dn_name 2 sc_l_primes.nd) eNm), (dcs_one (dt_cmp (xop_eq hr.units) (DE.x (de_ix (de_fn (ok_l_divided T) (hr.mono (by decide)) T.m_l_divided T.F_l_divided.kp T.b_l_divided dx (da_cons (dv 1) (da_cons (dv 2) da_nil))) (xe_nat 1)) eIx) (xe_nat 0))), (dv 2)⟩)) eLc)) (de_lst da_nil))) ePeekB)
      (DSs.x (dss_cons (DS.x (ds_app 0 (dv 1)) eApp)
      dss_nil) eSeq)
      dss_nil) eIf)
      dss_nil) eSeq))
      (DSs.x (dss_cons (DS.x (ds_frz 0 (ds_ret (dv 0))) eFrz)
      dss_nil) eSeq)) eSeq)) eSeq), ?_⟩
  refine r_start (ρ' := [.no, .no, .no]) rfl ?_
  bv_omega
  refine r_forG (l := List.range' 2 62) (f := fun b : Nat => PV.int (b : Int)) (γ := Slot) (fun i s => [.own (nl (svL i)), s, .no]) .no rfl (fun i o s Nx hx kk => ?_) (fun s => ?_)
  · have hil := (List.getElem?_eq_some_iff.mp hx).1
    rw [List.length_range'] at hil
    rw [List.getElem?_range' hil, Nat.one_mul] at hx
    have ho : o = i + 2 := by have := Option.some.inj hx; omega
    subst ho
    have hsl := svL_len i
    have hob : bl (i + 2) ≤ 6 := bl_le (by omega)
    bv_omega
    refine r_lcF (l := svL i) (f := fun b : Nat => PV.int (b : Int)) (h := fun b : Nat => PV.int (b : Int)) (p := fun u => decide (rmC 8 (i + 2) u = 0)) (by omega) (fun i2 a k z hx2 g1 g2 => ?_) ?_
    · have ha := svL_in i a (List.mem_of_getElem? hx2)
      have hab : bl a ≤ 6 := bl_le (by omega)
      have ha0 : a ≠ 0 := by omega
      rw [← rmC_eq (show i + 2 < 64 by omega) (show a < 64 by omega) ha.1] at g1 g2
      bv_omega
      refine r_if (fun h => ?_) (fun h => ?_)
      · bv_omega
        exact g1 (decide_eq_true h)
      · exact g2 (decide_eq_false h)
    bv_omega
    refine r_eqN0 ?_
    bv_omega
    have hss := svL_succ i
    refine r_if (fun c => ?_) (fun c => ?_)
    · rw [if_pos c] at hss
      bv_omega
      rw [← hss]
      exact kk _
    · rw [if_neg c] at hss
      bv_omega
      rw [← hss]
      exact kk _
  · bv_omega
    rw [show (List.range' 2 62).length = 62 from List.length_range' .., svL_all]
    bv_omega
    exact q
@[irreducible] def D_l_product : DSp := fun vs Q E n => ∃ (r : List Nat), vs = [.lst (nl r)] ∧ ((∀ x ∈ r, Irr x ∧ bl x ≤ 6) ∧ (r.length ≤ 100) ∧ (True)) ∧ Q (.int (fprod (on1 r) : Nat)) n
theorem D_l_product_mono : MonoSp D_l_product := fun vs Q Q' E E' n hq he h => by
  unfold D_l_product at h ⊢
  obtain ⟨r, e0_, p, q⟩ := h
  exact ⟨r, e0_, p, hq _ _ q⟩
theorem use_l_product {r : List Nat} {Q : PV → Pd} {E : PX → Pd} {n : Ck} (p1 : ∀ x ∈ r, Irr x ∧ bl x ≤ 6) (p2 : r.length ≤ 100) (q : Q (.int (fprod (on1 r) : Nat)) n) : D_l_product [.lst (nl r)] Q E n := by
  unfold D_l_product
  exact ⟨r, rfl, ⟨p1, p2, trivial⟩, q⟩
theorem ok_l_product (T : Tx K mg) : FnD (pr T) P w K mg base 2 T.f_l_product T.d_l_product ["_law_row_here"] D_l_product := by
  refine fnD T.F_l_product sc_l_product D_l_product_mono (fun vs Q E n h => by unfold D_l_product at h; obtain ⟨r, e0_, _⟩ := h; subst e0_; rfl) (fun cdv A outer s H E W Ex hr dx vs Q h => ?_)
  unfold D_l_product at h
  obtain ⟨r, rfl, ⟨p1, p2, _⟩, q⟩ := h
  refine ⟨_, (DSs.x (dss_cons (DS.x (ds_set 1 sc_l_product.nd (xe_nat 1)) (congrArg (dAsg _) eNm))
      (DSs.x (dss_cons (ds_for dx (di_list (dv 0)) (DG.x (dg_name 2 sc_l_product.nd) eNm)
      (DSs.x (dss_cons (DS.x (ds_set 1 sc_l_product.nd (de_fn (ok_l_times T) (hr.mono (by decide)) T.m_l_times T.F_l_times.kp T.b_l_times dx (da_cons (dv 1) (da_cons (dv 2) da_nil)))) (congrArg (dAsg _) eNm))
      dss_nil) eSeq))
      (DSs.x (dss_cons (ds_ret (dv 1))
      dss_nil) eSeq)) eSeq)) eSeq), ?_⟩
  refine r_start (ρ' := [.fz (.lst (nl r)), .no, .no]) rfl ?_
  bv_omega
  refine r_forG (l := r) (f := fun b : Nat => PV.int (b : Int)) (γ := Slot) (fun i s => [.fz (.lst (nl r)), .fz (.int (fprod (on1 (r.take i)) : Nat)), s]) .no rfl (fun i o s Nx hx kk => ?_) (fun s => ?_)
  · have ho := (p1 o (List.mem_of_getElem? hx)).2
    have hb := on1_bl (r := r.take i) fun x hx => (p1 x (List.mem_of_mem_take hx)).1
    have hs : ((r.take i).map fun x => bl x - 1).sum ≤ 5 * (r.take i).length := sum_le5 fun x hx => by have := (p1 x (List.mem_of_mem_take hx)).2; omega
    rw [List.length_take] at hs
    have e : cm (fprod (on1 (r.take i))) o = fprod (on1 (r.take (i + 1))) := by
      rw [List.take_add_one, hx]
      show _ = fprod (on1 (r.take i ++ [o]))
      rw [show on1 (r.take i ++ [o]) = on1 (r.take i) ++ [(o, 1)] by show List.map _ _ = _; rw [List.map_append]; rfl, fprod_snoc]
      show _ = cm _ (pwo o 1)
      rw [show pwo o 1 = o by rw [pwo_succ]; exact cm_one_l o]
    bv_omega
    rw [e]
    exact kk _
  · rw [List.take_length]
    bv_omega
    exact q
@[irreducible] def D_l_counts : DSp := fun vs Q E n => ∃ (r : List Nat), vs = [.lst (nl r)] ∧ ((r.length < 64) ∧ (True)) ∧ ∀ ms : List Nat, ms.Pairwise (· < ·) → (∀ x, x ∈ ms ↔ x ∈ r) → Q (.lst ((ms.map fun f => (f, r.count f)).map ep)) n
theorem D_l_counts_mono : MonoSp D_l_counts := fun vs Q Q' E E' n hq he h => by
  unfold D_l_counts at h ⊢
  obtain ⟨r, e0_, p, q⟩ := h
  exact ⟨r, e0_, p, by intros; apply hq; apply q <;> assumption⟩
theorem use_l_counts {r : List Nat} {Q : PV → Pd} {E : PX → Pd} {n : Ck} (p1 : r.length < 64) (q : ∀ ms : List Nat, ms.Pairwise (· < ·) → (∀ x, x ∈ ms ↔ x ∈ r) → Q (.lst ((ms.map fun f => (f, r.count f)).map ep)) n) : D_l_counts [.lst (nl r)] Q E n := by
  unfold D_l_counts
  exact ⟨r, rfl, ⟨p1, trivial⟩, q⟩
theorem ok_l_counts (T : Tx K mg) : FnD (pr T) P w K mg base 1 T.f_l_counts T.d_l_counts ["_law_row_here"] D_l_counts := by
  refine fnD T.F_l_counts sc_l_counts D_l_counts_mono (fun vs Q E n h => by unfold D_l_counts at h; obtain ⟨r, e0_, _⟩ := h; subst e0_; rfl) (fun cdv A outer s H E W Ex hr dx vs Q h => ?_)
  unfold D_l_counts at h
  obtain ⟨r, rfl, ⟨p1, _⟩, q⟩ := h
  refine ⟨_, (DSs.x (dss_cons (ds_ret (DNw.de (DNw.x (dn_comp (own := [("_law_number", 1)]) s dx sc_l_counts.nd (di_list (de_sortSet T.z_sorted T.z_set dx.calm (dv 0))) (blkOk_by (N := N_l_counts) (sc := defScope s_l_counts) (by decide +kernel)) (fun s H C cl fp dx => ⟨(DGn.x (dn_name 1 sc_l_counts.nd) eNm), dcs_nil, (de_tup (da_cons (dv 1) (da_cons (de_count (dv 0) (dv 1)) da_nil)))⟩)) eLc)))
      dss_nil) eSeq), ?_⟩
  refine r_start (ρ' := [.fz (.lst (nl r)), .no]) rfl ?_
  bv_omega
  refine r_sortSetG (l := r) isNs_l p1 (fun ms hms hmm => ?_)
  have hml : ms.length ≤ r.length := nodup_len (hms.imp fun h => Nat.ne_of_lt h) fun x hx => (hmm x).1 hx
  bv_omega
  refine r_lc (l := ms) (f := fun b : Nat => PV.int (b : Int)) (h := fun f : Nat => ep (f, r.count f)) (by omega) (fun i a k z hx kc => ?_) ?_
  · bv_omega
    exact kc
  rw [show ms.map (fun f : Nat => ep (f, r.count f)) = (ms.map fun f => (f, r.count f)).map ep by rw [List.map_map]; rfl]
  exact q ms hms hmm
@[irreducible] def D_l_told : DSp := fun vs Q E n => ∃ (k : Nat), vs = [.int (k : Nat)] ∧ ((k ≠ 0) ∧ (bl k ≤ 25) ∧ (True)) ∧ ∀ (l : NNL) (m : Ck), FR k l → m.n = n.n → Q (.lst (l.map ep)) m
theorem D_l_told_mono : MonoSp D_l_told := fun vs Q Q' E E' n hq he h => by
  unfold D_l_told at h ⊢
  obtain ⟨k, e0_, p, q⟩ := h
  exact ⟨k, e0_, p, by intros; apply hq; apply q <;> assumption⟩
theorem use_l_told {k : Nat} {Q : PV → Pd} {E : PX → Pd} {n : Ck} (p1 : k ≠ 0) (p2 : bl k ≤ 25) (q : ∀ (l : NNL) (m : Ck), FR k l → m.n = n.n → Q (.lst (l.map ep)) m) : D_l_told [.int (k : Nat)] Q E n := by
  unfold D_l_told
  exact ⟨k, rfl, ⟨p1, p2, trivial⟩, q⟩
theorem ok_l_told (T : Tx K mg) : FnD (pr T) P w K mg base 5 T.f_l_told T.d_l_told ["_law_number"] D_l_told := by
  refine fnD T.F_l_told sc_l_told D_l_told_mono (fun vs Q E n h => by unfold D_l_told at h; obtain ⟨k, e0_, _⟩ := h; subst e0_; rfl) (fun cdv A outer s H E W Ex hr dx vs Q h => ?_)
  unfold D_l_told at h
  obtain ⟨k, rfl, ⟨p1, p2, _⟩, q⟩ := h
  refine ⟨_, (DSs.x (dss_cons (ds_ret (DNw.de (dn_compB (own := [("_law_factor", 1), ("_law_exponent", 2)]) s dx sc_l_told.nd (de_fn (ok_factors_of T) (hr.mono (by decide)) T.m_factors_of T.F_factors_of.kp T.b_factors_of dx (da_cons (de_mkD (dvs := []) (dps := []) (ok_Poly___init__ T) T.mk_Poly (hr.mono (by decide)) T.m_Poly T.bd0_Poly___init__ dx (da_cons (dv 0) da_nil) no_dps) da_nil)) (blkOk_by (N := N_l_told) (sc := defScope s_l_told) (by decide +kernel)) (fun s H C cl fp dx => ⟨(dn_tup (n := 2) dx.calm (dns_cons (DGn.x (dn_name 1 sc_l_told.nd) eNm) (dns_cons (DGn.x (dn_name 2 sc_l_told.nd) eNm) dns_nil))), dcs_nil, (de_tup (da_cons (de_f 0 0 (dv 1) ix_Poly_number T.cl_Poly T.na_Poly_number) (da_cons (dv 2) da_nil)))⟩))))
      dss_nil) eSeq), ?_⟩
  refine r_start (ρ' := [.fz (.int (k : Nat)), .no, .no]) rfl ?_
  bv_omega
  refine use_factors_of (by omega) ⟨fun h => absurd h p1, fun _ h => (by omega), fun h h1 l kb m hF hm hL => ?_⟩
  bv_omega
  have hl25 : l.length ≤ 25 := by
    have h9 := dg_fprod l hF.irr
    have h8 := dg_len hF.irr
    rw [← hF.prod] at h9
    omega
  refine r_lcB (f := ft) (hh := ep) hL (by omega) (fun i a kk z hx kc => ?_) ?_
  · bv_omega
    exact kc
  exact q l m hF hm
end
end
section
set_option maxRecDepth 100000
set_option maxHeartbeats 4000000
theorem ok_epD {d : Nat} (p : Nat × Nat) : (ep p).okD (d + 1) = true := by
  refine ok_tup ?_
  simp only [PV.okDs, ok_i, Bool.and_self]
theorem oks_ep {d : Nat} : ∀ l : List (Nat × Nat), PV.okDs (d + 1) (l.map ep) = true
  | [] => rfl
  | p :: l => by
    show ((ep p).okD (d + 1) && PV.okDs (d + 1) (l.map ep)) = true
    rw [ok_epD p, oks_ep l]; rfl
theorem ok_eps (l : List (Nat × Nat)) : (PV.lst (l.map ep)).okD 60 = true := ok_lst (d := 59) (oks_ep (d := 58) l)
theorem told_on1 {r ms : List Nat} {l : List (Nat × Nat)} (hr : ∀ x ∈ r, Irr x) (hF : FR (fprod (on1 r)) l) (hms : ms.Pairwise (· < ·)) (hmm : ∀ x, x ∈ ms ↔ x ∈ r) : l = ms.map fun f => (f, r.count f) := by
  have e := hF.told (k := on1 r) (on1_irr hr) rfl hms (fun x => by rw [on1_fst]; exact hmm x)
  rw [e]
  exact List.map_congr_left fun f _ => by rw [expo_on1]
def cmL (ra rb ms : List Nat) : List Nat := (ms.map fun f => List.replicate (min (ra.count f) (rb.count f)) f).flatten
theorem cmL_count0 {ra rb : List Nat} {f : Nat} : ∀ {ms : List Nat}, ms.Nodup → (cmL ra rb ms).count f = if f ∈ ms then min (ra.count f) (rb.count f) else 0
  | [], _ => rfl
  | g :: ms, h => by
    obtain ⟨h1, h2⟩ := List.nodup_cons.1 h
    show (List.replicate _ g ++ cmL ra rb ms).count f = _
    rw [List.count_append, cmL_count0 h2, List.count_replicate]
    by_cases e : g = f
    · subst e
      rw [if_neg h1, if_pos (by simp), if_pos List.mem_cons_self]; rfl
    · have e2 : (g == f) = false := by simpa using e
      simp only [e2, Bool.false_eq_true, if_false, Nat.zero_add]
      by_cases c : f ∈ ms
      · rw [if_pos c, if_pos (List.mem_cons_of_mem _ c)]
      · have hn : ¬ f ∈ g :: ms := fun z => by
          rcases List.mem_cons.1 z with z | z
          · exact e z.symm
          · exact c z
        rw [if_neg c, if_neg hn]
theorem asc_nodup {ms : List Nat} (h : ms.Pairwise (· < ·)) : ms.Nodup := h.imp fun h => Nat.ne_of_lt h
theorem cmL_count {ra rb mc : List Nat} (h : mc.Pairwise (· < ·)) (hm : ∀ x, x ∈ mc ↔ x ∈ ra) (f : Nat) : (cmL ra rb mc).count f = min (ra.count f) (rb.count f) := by
  rw [cmL_count0 (asc_nodup h)]
  by_cases c : f ∈ mc
  · rw [if_pos c]
  · rw [if_neg c, List.count_eq_zero_of_not_mem fun z => c ((hm f).2 z), Nat.zero_min]
theorem cmL_mem {ra rb mc : List Nat} (hm : ∀ x, x ∈ mc ↔ x ∈ ra) : ∀ x ∈ cmL ra rb mc, x ∈ ra := fun x hx => by
  obtain ⟨r, hr, hx⟩ := List.mem_flatten.1 hx
  obtain ⟨f, hf, rfl⟩ := List.mem_map.1 hr
  rw [(List.mem_replicate.1 hx).2]
  exact (hm f).1 hf
theorem count_sum {ra : List Nat} : ∀ {ms : List Nat}, ms.Nodup → (ms.map fun f => ra.count f).sum ≤ ra.length := fun {ms} => by
  induction ra generalizing ms with
  | nil =>
    intro _
    have : ∀ l : List Nat, (l.map fun f => ([] : List Nat).count f).sum = 0 := fun l => by
      induction l with
      | nil => rfl
      | cons a l ih => rw [List.map_cons, List.sum_cons, ih]; rfl
    rw [this]; exact Nat.le_refl _
  | cons x ra ih =>
    intro h
    have hr := ih h
    have : ∀ l : List Nat, l.Nodup → (l.map fun f => (x :: ra).count f).sum ≤ (l.map fun f => ra.count f).sum + 1 := fun l => by
      induction l with
      | nil => intro _; simp
      | cons g l ihl =>
        intro h
        obtain ⟨h1, h2⟩ := List.nodup_cons.1 h
        have := ihl h2
        rw [List.map_cons, List.map_cons, List.sum_cons, List.sum_cons, List.count_cons]
        by_cases e : x = g
        · subst e
          have hz : l.map (fun f => (x :: ra).count f) = l.map fun f => ra.count f := List.map_congr_left fun f hf => by
            have : ¬ (x == f) = true := by simpa using fun z : x = f => h1 (z ▸ hf)
            rw [List.count_cons, if_neg this, Nat.add_zero]
          rw [hz]
          split <;> omega
        · have : ¬ (x == g) = true := by simpa using e
          rw [if_neg this]; omega
    have := this ms h
    rw [List.length_cons]; omega
theorem cmL_len {ra rb mc : List Nat} (h : mc.Pairwise (· < ·)) (i : Nat) : (cmL ra rb (mc.take i)).length ≤ ra.length := by
  have hn : (mc.take i).Nodup := (asc_nodup h).sublist (List.take_sublist _ _)
  refine Nat.le_trans ?_ (count_sum hn)
  unfold cmL
  generalize mc.take i = l
  induction l with
  | nil => exact Nat.le_refl _
  | cons g l ih =>
    rw [List.map_cons, List.flatten_cons, List.length_append, List.length_replicate, List.map_cons, List.sum_cons]
    have := Nat.min_le_left (ra.count g) (rb.count g)
    omega
local macro_rules | `(tactic| array_get_dec) => `(tactic| first | with_reducible refine mk_poly ?_ | with_reducible refine o_countL ?_ | with_reducible refine r_count0 ?_ | with_reducible refine r_countL ?_ | with_reducible refine o_slS ?_ | ((with_reducible refine mk_pdiv ?_ ?_ ?_ ?_); (focus omega); (focus omega); (focus omega)))
section
variable {P : Program} {w : World} {K : PySem.W.Frag} {mg : Str → Option Value} {base : Heap}
@[irreducible] def D_l_row : DSp := fun vs Q E n => ∃ (zs : List Int) (u : PV), vs = [.box 0, .lst (nl prm), u] ∧ ((u = .scr (zs.map .int) ∨ u = .lst (zs.map .int)) ∧ (zs.length ≤ 63) ∧ (n.n < 80000) ∧ (True)) ∧ ∀ (r : List Nat) (m : Ck), (∀ x ∈ r, Irr x ∧ bl x ≤ 6) → (r.map fun x => bl x - 1).sum ≤ 24 → r.length ≤ 24 → m.n ≤ n.n + 60 → Q (.lst (nl r)) m
theorem D_l_row_mono : MonoSp D_l_row := fun vs Q Q' E E' n hq he h => by
  unfold D_l_row at h ⊢
  obtain ⟨zs, u, e0_, p, q⟩ := h
  exact ⟨zs, u, e0_, p, by intros; apply hq; apply q <;> assumption⟩
theorem use_l_row {zs : List Int} {u : PV} {Q : PV → Pd} {E : PX → Pd} {n : Ck} (p1 : u = .scr (zs.map .int) ∨ u = .lst (zs.map .int)) (p2 : zs.length ≤ 63) (p3 : n.n < 80000) (q : ∀ (r : List Nat) (m : Ck), (∀ x ∈ r, Irr x ∧ bl x ≤ 6) → (r.map fun x => bl x - 1).sum ≤ 24 → r.length ≤ 24 → m.n ≤ n.n + 60 → Q (.lst (nl r)) m) : D_l_row [.box 0, .lst (nl prm), u] Q E n := by
  unfold D_l_row
  exact ⟨zs, u, rfl, ⟨p1, p2, p3, trivial⟩, q⟩
theorem ok_l_row (T : Tx K mg) : FnD (pr T) P w K mg base 2 T.f_l_row T.d_l_row ["_law_state", "_law_primes_here", "_law_script"] D_l_row := by
  refine fnD T.F_l_row sc_l_row D_l_row_mono (fun vs Q E n h => by unfold D_l_row at h; obtain ⟨zs, u, e0_, _⟩ := h; subst e0_; rfl) (fun cdv A outer s H E W Ex hr dx vs Q h => ?_)
  unfold D_l_row at h
  obtain ⟨zs, u, rfl, ⟨p1, p2, p3, _⟩, q⟩ := h
  refine ⟨_, (DSs.x (dss_cons (DS.x (ds_own 3 sc_l_row.nd (dn_disp da_nil)) (eOwn rfl))
      (DSs.x (dss_cons (DS.x (ds_set 4 sc_l_row.nd (xe_nat 0)) (congrArg (dAsg _) eNm))
      (DSs.x (dss_cons (ds_for dx (di_list (DE.x (de_slice (dv 2) dp_none (dp_some (xe_nat 24))) eSl)) (DG.x (dg_name 5 sc_l_row.nd) eNm)
      (DSs.x (dss_cons (DS.x (ds_set 6 sc_l_row.nd (DE.x (de_ix (dv 1) (de_fn (ok_l_draw T) (hr.mono (by decide)) T.m_l_draw T.F_l_draw.kp T.b_l_draw dx (da_cons (dv 0) (da_cons (DE.x (de_ix (de_lst (da_cons (xe_nat 4) (da_cons (xe_nat 9) (da_cons (de_callB xc_len T.z_len bt_len (da_cons (dv 1) da_nil)) da_nil)))) (de_fn (ok_l_draw T) (hr.mono (by decide)) T.m_l_draw T.F_l_draw.kp T.b_l_draw dx (da_cons (dv 0) (da_cons (xe_nat 3) da_nil)))) eIx) da_nil)))) eIx)) (congrArg (dAsg _) eNm))
      (DSs.x (dss_cons (DS.x (ds_if (dt_cmp xop_le (de_bin xop_sub (de_bin xop_add (dv 4) (DE.x (de_bits (dv 6)) eBits)) (xe_nat 1)) (xe_nat 24))
      (DSs.x (dss_cons (DS.x (ds_app 3 (dv 6)) eApp)
      (DSs.x (dss_cons (DS.x (ds_set 4 sc_l_row.nd (de_bin xop_sub (de_bin xop_add (dv 4) (DE.x (de_bits (dv 6)) eBits)) (xe_nat 1))) (congrArg (dAsg _) eNm))
      dss_nil) eSeq)) eSeq)
      dss_nil) eIf)
      dss_nil) eSeq)) eSeq))
      (DSs.x (dss_cons (DS.x (ds_frz 3 (ds_ret (dv 3))) eFrz)
      dss_nil) eSeq)) eSeq)) eSeq)) eSeq), ?_⟩
  refine r_start (ρ' := [.fz (.box 0), .fz (.lst (nl prm)), .fz (u), .no, .no, .no, .no]) rfl ?_
  rcases p1 with rfl | rfl
  · bv_omega
    refine r_forH (l := zs.take 24) (f := PV.int) (γ := List Nat × Nat × Slot × Slot) (fun y => [.fz (.box 0), .fz (.lst (nl prm)), .fz (.scr (zs.map .int)), .own (nl y.1), .fz (.int (y.2.1 : Nat)), y.2.2.1, y.2.2.2]) (fun i y m => (∀ x ∈ y.1, Irr x ∧ bl x ≤ 6) ∧ (y.1.map fun x => bl x - 1).sum = y.2.1 ∧ y.2.1 ≤ 24 ∧ y.1.length ≤ i ∧ m.n ≤ W.c.n + 2 * i) ([], 0, .no, .no) rfl ⟨fun x hx => (by cases hx), rfl, Nat.zero_le _, Nat.zero_le _, Nat.le_refl _⟩ (fun i t y m Nx hx hI kk => ?_) (fun y m hI => ?_)
    · have hil := (List.getElem?_eq_some_iff.mp hx).1
      rw [List.length_take] at hil
      obtain ⟨r, dgs, y1, y2⟩ := y
      obtain ⟨h1, h2, h3, h4, h5⟩ := hI
      have h2 : (r.map fun x => bl x - 1).sum = dgs := h2
      have h3 : dgs ≤ 24 := h3
      have h4 : r.length ≤ i := h4
      dsimp only
      bv_omega
      refine use_draw (by omega) (by omega) (by first | omega | (simp only [Ck.tick, Ck.put, Ck.new]; omega)) (fun v hv => ?_)
      obtain ⟨w0, hw0, hw1, hwe⟩ : ∃ w0 : Nat, 0 < w0 ∧ w0 ≤ 14 ∧ [PV.int (4 : Nat), PV.int (9 : Nat), PV.int (prm.length : Nat)][v]? = some (.int (w0 : Nat)) := by
        have : v = 0 ∨ v = 1 ∨ v = 2 := by omega
        rcases this with rfl | rfl | rfl
        · exact ⟨4, by decide, by decide, rfl⟩
        · exact ⟨9, by decide, by decide, rfl⟩
        · exact ⟨prm.length, by decide, by decide, rfl⟩
      bv_omega
      refine r_ix_l hwe ?_
      bv_omega
      refine use_draw (by omega) (by omega) (by first | omega | (simp only [Ck.tick, Ck.put, Ck.new]; omega)) (fun u0 hu0 => ?_)
      have hpl : prm.length = 14 := rfl
      bv_omega
      have hfm : prm.getD u0 0 ∈ prm := by rw [List.getD_eq_getElem?_getD, List.getElem?_eq_getElem (show u0 < prm.length by rw [hpl]; omega)]; exact List.getElem_mem _
      generalize prm.getD u0 0 = f at *
      obtain ⟨f1, f2⟩ := prm_irr f hfm
      have f3 := f1.1
      bv_omega
      refine r_if (fun d => ?_) (fun d => ?_)
      · bv_omega
        have e : dgs + bl f - 1 = dgs + (bl f - 1) := by omega
        refine kk (r ++ [f], dgs + bl f - 1, _, _) _ ⟨fun x hx => ?_, ?_, by show dgs + bl f - 1 ≤ 24; omega, by show (r ++ [f]).length ≤ i + 1; rw [List.length_append]; simp only [List.length_cons, List.length_nil]; omega, by show m.n + 1 + 1 ≤ _; omega⟩
        · rcases List.mem_append.1 hx with hx | hx
          · exact h1 x hx
          · rw [List.mem_singleton.1 hx]; exact ⟨f1, f2⟩
        · show ((r ++ [f]).map fun x => bl x - 1).sum = dgs + bl f - 1
          rw [List.map_append, List.sum_append, h2, e]
          show dgs + ((bl f - 1) + 0) = _
          omega
      · bv_omega
        exact kk (r, dgs, _, _) _ ⟨h1, h2, h3, by show r.length ≤ i + 1; omega, by show m.n + 1 + 1 ≤ _; omega⟩
    · obtain ⟨r, dgs, y1, y2⟩ := y
      obtain ⟨h1, h2, h3, h4, h5⟩ := hI
      rw [List.length_take] at h4 h5
      have h2 : (r.map fun x => bl x - 1).sum = dgs := h2
      have h3 : dgs ≤ 24 := h3
      have h4 : r.length ≤ min 24 zs.length := h4
      dsimp only
      bv_omega
      exact q r m h1 (by omega) (by omega) (by omega)
  · bv_omega
    refine r_forH (l := zs.take 24) (f := PV.int) (γ := List Nat × Nat × Slot × Slot) (fun y => [.fz (.box 0), .fz (.lst (nl prm)), .fz (.lst (zs.map .int)), .own (nl y.1), .fz (.int (y.2.1 : Nat)), y.2.2.1, y.2.2.2]) (fun i y m => (∀ x ∈ y.1, Irr x ∧ bl x ≤ 6) ∧ (y.1.map fun x => bl x - 1).sum = y.2.1 ∧ y.2.1 ≤ 24 ∧ y.1.length ≤ i ∧ m.n ≤ W.c.n + 2 * i) ([], 0, .no, .no) rfl ⟨fun x hx => (by cases hx), rfl, Nat.zero_le _, Nat.zero_le _, Nat.le_refl _⟩ (fun i t y m Nx hx hI kk => ?_) (fun y m hI => ?_)
    · have hil := (List.getElem?_eq_some_iff.mp hx).1
      rw [List.length_take] at hil
      obtain ⟨r, dgs, y1, y2⟩ := y
      obtain ⟨h1, h2, h3, h4, h5⟩ := hI
      have h2 : (r.map fun x => bl x - 1).sum = dgs := h2
      have h3 : dgs ≤ 24 := h3
      have h4 : r.length ≤ i := h4
      dsimp only
      bv_omega
      refine use_draw (by omega) (by omega) (by first | omega | (simp only [Ck.tick, Ck.put, Ck.new]; omega)) (fun v hv => ?_)
      obtain ⟨w0, hw0, hw1, hwe⟩ : ∃ w0 : Nat, 0 < w0 ∧ w0 ≤ 14 ∧ [PV.int (4 : Nat), PV.int (9 : Nat), PV.int (prm.length : Nat)][v]? = some (.int (w0 : Nat)) := by
        have : v = 0 ∨ v = 1 ∨ v = 2 := by omega
        rcases this with rfl | rfl | rfl
        · exact ⟨4, by decide, by decide, rfl⟩
        · exact ⟨9, by decide, by decide, rfl⟩
        · exact ⟨prm.length, by decide, by decide, rfl⟩
      bv_omega
      refine r_ix_l hwe ?_
      bv_omega
      refine use_draw (by omega) (by omega) (by first | omega | (simp only [Ck.tick, Ck.put, Ck.new]; omega)) (fun u0 hu0 => ?_)
      have hpl : prm.length = 14 := rfl
      bv_omega
      have hfm : prm.getD u0 0 ∈ prm := by rw [List.getD_eq_getElem?_getD, List.getElem?_eq_getElem (show u0 < prm.length by rw [hpl]; omega)]; exact List.getElem_mem _
      generalize prm.getD u0 0 = f at *
      obtain ⟨f1, f2⟩ := prm_irr f hfm
      have f3 := f1.1
      bv_omega
      refine r_if (fun d => ?_) (fun d => ?_)
      · bv_omega
        have e : dgs + bl f - 1 = dgs + (bl f - 1) := by omega
        refine kk (r ++ [f], dgs + bl f - 1, _, _) _ ⟨fun x hx => ?_, ?_, by show dgs + bl f - 1 ≤ 24; omega, by show (r ++ [f]).length ≤ i + 1; rw [List.length_append]; simp only [List.length_cons, List.length_nil]; omega, by show m.n + 1 + 1 ≤ _; omega⟩
        · rcases List.mem_append.1 hx with hx | hx
          · exact h1 x hx
          · rw [List.mem_singleton.1 hx]; exact ⟨f1, f2⟩
        · show ((r ++ [f]).map fun x => bl x - 1).sum = dgs + bl f - 1
          rw [List.map_append, List.sum_append, h2, e]
          show dgs + ((bl f - 1) + 0) = _
          omega
      · bv_omega
        exact kk (r, dgs, _, _) _ ⟨h1, h2, h3, by show r.length ≤ i + 1; omega, by show m.n + 1 + 1 ≤ _; omega⟩
    · obtain ⟨r, dgs, y1, y2⟩ := y
      obtain ⟨h1, h2, h3, h4, h5⟩ := hI
      rw [List.length_take] at h4 h5
      have h2 : (r.map fun x => bl x - 1).sum = dgs := h2
      have h3 : dgs ≤ 24 := h3
      have h4 : r.length ≤ min 24 zs.length := h4
      dsimp only
      bv_omega
      exact q r m h1 (by omega) (by omega) (by omega)
theorem ok_law (T : Tx K mg) : FnD (pr T) P w K mg base 6 T.f_law T.d_law ["_law_script"] D_law := by
  refine fnD T.F_law sc_law D_law_mono (fun vs Q E n ⟨ns, e, _⟩ => by subst e; rfl) (fun cdv A outer s H E W Ex hr dx vs Q h => ?_)
  obtain ⟨ns, rfl, hl, hc0, q⟩ := h
  refine ⟨_, (DSs.x (dss_cons (DS.x (ds_set 1 sc_law.nd (de_fn (ok_l_start T) (hr.mono (by decide)) T.m_l_start T.F_l_start.kp T.b_l_start dx (da_cons (dv 0) da_nil))) (congrArg (dAsg _) eNm))
      (DSs.x (dss_cons (DS.x (ds_set 2 sc_law.nd (de_fn0 (ok_l_primes T) (hr.mono (by decide)) T.m_l_primes T.F_l_primes.kp T.b_l_primes dx)) (congrArg (dAsg _) eNm))
      (DSs.x (dss_cons (DS.x (ds_set 3 sc_law.nd (de_fn (ok_l_row T) (hr.mono (by decide)) T.m_l_row T.F_l_row.kp T.b_l_row dx (da_cons (dv 1) (da_cons (dv 2) (da_cons (dv 0) da_nil))))) (congrArg (dAsg _) eNm))
      (DSs.x (dss_cons (DS.x (ds_set 4 sc_law.nd (de_fn (ok_l_row T) (hr.mono (by decide)) T.m_l_row T.F_l_row.kp T.b_l_row dx (da_cons (dv 1) (da_cons (dv 2) (da_cons (de_sliceS (by decide) (dv 0)) da_nil))))) (congrArg (dAsg _) eNm))
      (DSs.x (dss_cons (DS.x (ds_set 5 sc_law.nd (de_fn (ok_l_product T) (hr.mono (by decide)) T.m_l_product T.F_l_product.kp T.b_l_product dx (da_cons (dv 3) da_nil))) (congrArg (dAsg _) eNm))
      (DSs.x (dss_cons (DS.x (ds_set 6 sc_law.nd (de_fn (ok_l_product T) (hr.mono (by decide)) T.m_l_product T.F_l_product.kp T.b_l_product dx (da_cons (dv 4) da_nil))) (congrArg (dAsg _) eNm))
      (DSs.x (dss_cons (DS.x (ds_if (DW.pt (DW.x (dw_or (dt_cmp (xop_ne hr.units) (de_fn (ok_l_told T) (hr.mono (by decide)) T.m_l_told T.F_l_told.kp T.b_l_told dx (da_cons (dv 5) da_nil)) (de_fn (ok_l_counts T) (hr.mono (by decide)) T.m_l_counts T.F_l_counts.kp T.b_l_counts dx (da_cons (dv 3) da_nil))) (dw_or1 (dt_cmp (xop_ne hr.units) (de_fn (ok_l_told T) (hr.mono (by decide)) T.m_l_told T.F_l_told.kp T.b_l_told dx (da_cons (dv 6) da_nil)) (de_fn (ok_l_counts T) (hr.mono (by decide)) T.m_l_counts T.F_l_counts.kp T.b_l_counts dx (da_cons (dv 4) da_nil))))) eOr))
      (DSs.x (dss_cons (ds_ret de_bl)
      dss_nil) eSeq)
      dss_nil) eIf)
      (DSs.x (dss_cons (DS.x (ds_set 7 sc_law.nd (de_lst da_nil)) (congrArg (dAsg _) eNm))
      (DSs.x (dss_cons (ds_for dx (di_list (de_sortSet T.z_sorted T.z_set dx.calm (dv 3))) (DG.x (dg_name 8 sc_law.nd) eNm)
      (DSs.x (dss_cons (DS.x (ds_set 7 sc_law.nd (de_bin xop_add (dv 7) (de_bin xop_mul (de_lst (da_cons (dv 8) da_nil)) (de_callB (xc_min2 dx.calm) T.z_min bt_min (da_cons (de_count (dv 3) (dv 8)) (da_cons (de_count (dv 4) (dv 8)) da_nil)))))) (congrArg (dAsg _) eNm))
      dss_nil) eSeq))
      (DSs.x (dss_cons (DS.x (ds_set 9 sc_law.nd (de_f 0 0 (de_fn (ok_gcd_of T) (hr.mono (by decide)) T.m_gcd_of T.F_gcd_of.kp T.b_gcd_of dx (da_cons (de_mkD (dvs := []) (dps := []) (ok_Poly___init__ T) T.mk_Poly (hr.mono (by decide)) T.m_Poly T.bd0_Poly___init__ dx (da_cons (dv 5) da_nil) no_dps) (da_cons (de_mkD (dvs := []) (dps := []) (ok_Poly___init__ T) T.mk_Poly (hr.mono (by decide)) T.m_Poly T.bd0_Poly___init__ dx (da_cons (dv 6) da_nil) no_dps) da_nil))) ix_Poly_number T.cl_Poly T.na_Poly_number)) (congrArg (dAsg _) eNm))
      (DSs.x (dss_cons (DS.x (ds_if (DW.pt (DW.x (dw_or (dt_cmp (xop_ne hr.units) (dv 9) (de_fn (ok_l_product T) (hr.mono (by decide)) T.m_l_product T.F_l_product.kp T.b_l_product dx (da_cons (dv 7) da_nil))) (dw_or1 (dt_cmp (xop_ne hr.units) (de_fn (ok_l_told T) (hr.mono (by decide)) T.m_l_told T.F_l_told.kp T.b_l_told dx (da_cons (dv 9) da_nil)) (de_fn (ok_l_counts T) (hr.mono (by decide)) T.m_l_counts T.F_l_counts.kp T.b_l_counts dx (da_cons (dv 7) da_nil))))) eOr))
      (DSs.x (dss_cons (ds_ret de_bl)
      dss_nil) eSeq)
      dss_nil) eIf)
      (DSs.x (dss_cons (DS.x (ds_set 10 sc_law.nd (de_f 0 0 (de_bin (dop_own (c := 0) (ok_Poly___floordiv__ T) (hr.mono (by decide)) T.b_Poly___floordiv__ T.ow_Poly___floordiv__ T.sf_Poly) (de_mkD (dvs := []) (dps := []) (ok_Poly___init__ T) T.mk_Poly (hr.mono (by decide)) T.m_Poly T.bd0_Poly___init__ dx (da_cons (dv 5) da_nil) no_dps) (de_mkD (dvs := []) (dps := []) (ok_Poly___init__ T) T.mk_Poly (hr.mono (by decide)) T.m_Poly T.bd0_Poly___init__ dx (da_cons (dv 9) da_nil) no_dps)) ix_Poly_number T.cl_Poly T.na_Poly_number)) (congrArg (dAsg _) eNm))
      (DSs.x (dss_cons (DS.x (ds_if (DW.pt (DW.x (dw_or (dt_cmp (xop_ne hr.units) (de_fn (ok_l_times T) (hr.mono (by decide)) T.m_l_times T.F_l_times.kp T.b_l_times dx (da_cons (dv 10) (da_cons (dv 9) da_nil))) (dv 5)) (dw_or1 (dt_cmp (xop_ne hr.units) (de_f 0 0 (de_fn (ok_gcd_of T) (hr.mono (by decide)) T.m_gcd_of T.F_gcd_of.kp T.b_gcd_of dx (da_cons (de_mkD (dvs := []) (dps := []) (ok_Poly___init__ T) T.mk_Poly (hr.mono (by decide)) T.m_Poly T.bd0_Poly___init__ dx (da_cons (dv 10) da_nil) no_dps) (da_cons (de_mkD (dvs := []) (dps := []) (ok_Poly___init__ T) T.mk_Poly (hr.mono (by decide)) T.m_Poly T.bd0_Poly___init__ dx (da_cons (xe_nat 1) da_nil) no_dps) da_nil))) ix_Poly_number T.cl_Poly T.na_Poly_number) (xe_nat 1)))) eOr))
      (DSs.x (dss_cons (ds_ret de_bl)
      dss_nil) eSeq)
      dss_nil) eIf)
      (DSs.x (dss_cons (DS.x (ds_set 11 sc_law.nd (de_bin xop_add (dv 3) (dv 4))) (congrArg (dAsg _) eNm))
      (DSs.x (dss_cons (DS.x (ds_if (dt_cmp xop_gt (de_callB (xc_sum dx.calm) T.z_sum bt_sum (da_cons (DNw.de (DNw.x (dn_comp (own := [("_law_number", 8)]) s dx sc_law.nd (di_list (dv 11)) (blkOk_by (N := N_law) (sc := defScope s_law) (by decide +kernel)) (fun s H C cl fp dx => ⟨(DGn.x (dn_name 8 sc_law.nd) eNm), dcs_nil, (de_bin xop_sub (DE.x (de_bits (dv 8)) eBits) (xe_nat 1))⟩)) eLc)) da_nil)) (xe_nat 24))
      (DSs.x (dss_cons (ds_ret de_bl)
      dss_nil) eSeq)
      dss_nil) eIf)
      (DSs.x (dss_cons (ds_ret (de_cmp (xop_eq hr.units) (de_fn (ok_l_told T) (hr.mono (by decide)) T.m_l_told T.F_l_told.kp T.b_l_told dx (da_cons (de_fn (ok_l_product T) (hr.mono (by decide)) T.m_l_product T.F_l_product.kp T.b_l_product dx (da_cons (dv 11) da_nil)) da_nil)) (de_fn (ok_l_counts T) (hr.mono (by decide)) T.m_l_counts T.F_l_counts.kp T.b_l_counts dx (da_cons (dv 11) da_nil))))
      dss_nil) eSeq)) eSeq)) eSeq)) eSeq)) eSeq)) eSeq)) eSeq)) eSeq)) eSeq)) eSeq)) eSeq)) eSeq)) eSeq)) eSeq)) eSeq)) eSeq), ?_⟩
  refine r_start (ρ' := [.fz (.scr (ns.map .int)), .no, .no, .no, .no, .no, .no, .no, .no, .no, .no, .no]) rfl ?_
  have hcn : W.c.n = 0 := by rw [hc0]; rfl
  bv_omega
  refine use_start (by omega) ?_
  bv_omega
  refine use_l_primes trivial ?_
  bv_omega
  refine use_l_row (zs := ns) (.inl rfl) hl (by first | omega | (simp only [Ck.tick, Ck.put, Ck.new]; omega)) (fun ra ma a1 a2 a3 a4 => ?_)
  bv_omega
  refine r_slS (f := PV.int) (l := ns) (.inr rfl) ?_
  have hpk : (pickS 2 ns).length ≤ 63 := Nat.le_trans pickS_le hl
  refine use_l_row (zs := pickS 2 ns) (.inr rfl) hpk (by first | omega | (simp only [Ck.tick, Ck.put, Ck.new]; omega)) (fun rb mb b1 b2 b3 b4 => ?_)
  have ai : ∀ x ∈ ra, Irr x := fun x hx => (a1 x hx).1
  have bi : ∀ x ∈ rb, Irr x := fun x hx => (b1 x hx).1
  have abl := on1_bl ai
  have bbl := on1_bl bi
  have ane := fprod_ne fun p hp => (on1_irr ai p hp).1
  have bne := fprod_ne fun p hp => (on1_irr bi p hp).1
  bv_omega
  refine use_l_product a1 (by omega) ?_
  bv_omega
  refine use_l_product b1 (by omega) ?_
  bv_omega
  refine use_l_told ane (by omega) (fun la m1 hFa hm1 => ?_)
  bv_omega
  refine use_l_counts (by omega) (fun ma2 a5 a6 => ?_)
  rw [told_on1 ai hFa a5 a6]
  bv_omega
  refine DL.r_ne_same (ok_eps _) rfl ?_
  bv_omega
  refine use_l_told bne (by omega) (fun lb m2 hFb hm2 => ?_)
  bv_omega
  refine use_l_counts (by omega) (fun mb2 b5 b6 => ?_)
  rw [told_on1 bi hFb b5 b6]
  bv_omega
  refine DL.r_ne_same (ok_eps _) rfl ?_
  bv_omega
  refine r_sortSetG (l := ra) isNs_l (by omega) (fun mc c5 c6 => ?_)
  have hmcl : mc.length ≤ ra.length := nodup_len (c5.imp fun h => Nat.ne_of_lt h) fun x hx => (c6 x).1 hx
  bv_omega
  refine r_forG (l := mc) (f := fun b : Nat => PV.int (b : Int)) (γ := Slot) (fun i y => [.fz (.scr (ns.map .int)), .fz (.box 0), .fz (.lst (nl prm)), .fz (.lst (nl ra)), .fz (.lst (nl rb)), .fz (.int (fprod (on1 ra) : Nat)), .fz (.int (fprod (on1 rb) : Nat)), .fz (.lst (nl (cmL ra rb (mc.take i)))), y, .no, .no, .no]) .no rfl (fun i f y Nx hx kk => ?_) (fun y => ?_)
  · have hil := (List.getElem?_eq_some_iff.mp hx).1
    have hcl := cmL_len (ra := ra) (rb := rb) c5 i
    have hcf : min (ra.count f) (rb.count f) ≤ 24 := Nat.le_trans (Nat.min_le_left _ _) (Nat.le_trans List.count_le_length (by omega))
    have e : cmL ra rb (mc.take i) ++ List.replicate (min (ra.count f) (rb.count f)) f = cmL ra rb (mc.take (i + 1)) := by
      unfold cmL
      rw [List.take_add_one, hx, List.map_append, List.flatten_append]
      show _ = _ ++ (List.replicate _ f ++ [])
      rw [List.append_nil]
    bv_omega
    rw [e]
    exact kk _
  · rw [List.take_length]
    have hcl := cmL_len (ra := ra) (rb := rb) c5 mc.length
    rw [List.take_length] at hcl
    have cmem : ∀ x ∈ cmL ra rb mc, x ∈ ra := cmL_mem c6
    have ci : ∀ x ∈ cmL ra rb mc, Irr x ∧ bl x ≤ 6 := fun x hx => a1 x (cmem x hx)
    have ci2 : ∀ x ∈ cmL ra rb mc, Irr x := fun x hx => (ci x hx).1
    have hgc : gc (fprod (on1 ra)) (fprod (on1 rb)) = fprod (on1 (cmL ra rb mc)) := gc_fprod (fun p hp => (on1_irr ai p hp).1) (fun p hp => (on1_irr bi p hp).1) (fun p hp => (on1_irr ci2 p hp).1) fun f hf => by
      rw [expo_on1, expo_on1, expo_on1]; exact cmL_count c5 c6 f
    have cne := fprod_ne fun p hp => (on1_irr ci2 p hp).1
    have cbl : bl (fprod (on1 (cmL ra rb mc))) ≤ 25 := by
      have := gc_l (fprod (on1 ra)) (fprod (on1 rb))
      rw [hgc] at this
      have := dvd_bl this ane
      omega
    bv_omega
    refine use_gcd_of (by omega) (by omega) ?_
    rw [hgc]
    bv_omega
    refine use_l_product ci (by omega) ?_
    bv_omega
    refine use_l_told cne cbl (fun lc m3 hFc hm3 => ?_)
    bv_omega
    refine use_l_counts (by omega) (fun mcc d5 d6 => ?_)
    rw [told_on1 ci2 hFc d5 d6]
    bv_omega
    refine DL.r_ne_same (ok_eps _) rfl ?_
    have hdv := gc_l (fprod (on1 ra)) (fprod (on1 rb))
    rw [hgc] at hdv
    obtain ⟨u, hu⟩ := hdv
    have hq : qd (fprod (on1 ra)) (fprod (on1 (cmL ra rb mc))) = u := by rw [hu]; exact qd_mul cne
    have hu0 : u ≠ 0 := fun z => ane (by rw [hu, z, cm_comm, cm_zero])
    have hub : bl u ≤ 25 := by
      have := bl_cm hu0 cne
      rw [← hu] at this
      have := bl_pos cne
      omega
    bv_omega
    rw [hq]
    bv_omega
    refine use_l_times (by omega) (by omega) ?_
    rw [← hu]
    bv_omega
    refine use_gcd_of (by omega) (by decide) ?_
    rw [show gc u 1 = 1 from dvd_one (gc_r u 1)]
    bv_omega
    have wi : ∀ x ∈ ra ++ rb, Irr x ∧ bl x ≤ 6 := fun x hx => by
      rcases List.mem_append.1 hx with hx | hx
      · exact a1 x hx
      · exact b1 x hx
    have wi2 : ∀ x ∈ ra ++ rb, Irr x := fun x hx => (wi x hx).1
    have wl : (ra ++ rb).length ≤ 48 := by rw [List.length_append]; omega
    refine r_lc (l := ra ++ rb) (f := fun b : Nat => PV.int (b : Int)) (h := fun x : Nat => PV.int ((bl x - 1 : Nat) : Int)) (by omega) (fun i a k z hx kc => ?_) ?_
    · have ha := (wi2 a (List.mem_of_getElem? hx)).1
      bv_omega
      exact kc
    rw [show (ra ++ rb).map (fun x : Nat => PV.int ((bl x - 1 : Nat) : Int)) = nl ((ra ++ rb).map fun x => bl x - 1) by show _ = List.map _ (List.map _ _); rw [List.map_map]; rfl]
    have wbl := on1_bl wi2
    have wne := fprod_ne fun p hp => (on1_irr wi2 p hp).1
    bv_omega
    refine r_if (fun d => ?_) (fun d => ?_)
    · bv_omega
      exact q _
    · bv_omega
      refine use_l_product wi (by omega) ?_
      bv_omega
      refine use_l_told wne (by omega) (fun lw m4 hFw hm4 => ?_)
      bv_omega
      refine use_l_counts (by omega) (fun mw w5 w6 => ?_)
      rw [told_on1 wi2 hFw w5 w6]
      bv_omega
      refine DL.r_eq_same (ok_eps _) rfl ?_
      exact q _
end
end
section
set_option maxRecDepth 100000
set_option maxHeartbeats 4000000
def spLaw (K : PySem.W.Frag) : Sp := fun vs H Q E => ∀ cm : Nat → Addr, liftSp (parA cm fnm) K D_law vs H Q E
theorem spLaw_end {K : PySem.W.Frag} {H : Hp} (a : Addr) (ns : List Int) (hl : ns.length ≤ 63) (hb : ∀ z ∈ ns, Builtin.Int.intBits z ≤ 1048576) (hS : SqL K H a (ns.map V.int)) : spLaw K [.ref a] H (fun v _ => v = .bl true) (fun _ _ _ => False) := fun cm => law_lift hl hS
theorem law_end {P : Program} {w : World} {K : PySem.W.Frag} {mg : Str → Option Value} {base : Heap} (T : Tx K mg) : FnOk P w K mg base (L2.CX P w) 6 T.f_law T.d_law ["_law_script"] (spLaw K) := (ok_law T).ok.imp fun vs H Q E q => q (cmap T)
theorem all_mk {l : PySem.W.OpenLaw} {w : World} {K : PySem.W.Frag} {h : Heap} {mg : Str → Option Value} {fa : Addr} (X : K.In h) (G : h.Ns mainGlobals mg) (hfa : mg "law" = some (.ref fa))
    {tk_MOST : Tok}
    {C_Poly C_BitsError C_NoDivision xN_NoDivision C_TooLarge xN_TooLarge f_NoDivision___init__ f_TooLarge___init__ f_divided f_Poly___init__ TD_Poly___init__ f_Poly_degree p_Poly_degree f_l_start f_l_draw f_l_times f_l_divided f_l_counts f_l_primes f_l_row f_l_product f_Poly___floordiv__ f_Poly___mod__ f_gcd_of f_factors_of f_l_told f_law : Addr}
    {xnm_NoDivision xq_NoDivision xnm_TooLarge xq_TooLarge : Str}
    {xbs_NoDivision xbm_NoDivision xsub_NoDivision xbs_TooLarge xbm_TooLarge xsub_TooLarge rs_Poly_degree : List Value}
    {xsn_NoDivision xsn_TooLarge : List Str}
    {xab_NoDivision xab_TooLarge : Bool}
    {xcol_NoDivision xcol_TooLarge : Option Bool}
    {xdd_NoDivision xdd_TooLarge od_NoDivision___init__ an_NoDivision___init__ od_TooLarge___init__ an_TooLarge___init__ od_divided an_divided od_Poly___init__ an_Poly___init__ odT_Poly___init__ od_Poly_degree an_Poly_degree od_l_start an_l_start od_l_draw an_l_draw od_l_times an_l_times od_l_divided an_l_divided od_l_counts an_l_counts od_l_primes an_l_primes od_l_row an_l_row od_l_product an_l_product od_Poly___floordiv__ an_Poly___floordiv__ od_Poly___mod__ an_Poly___mod__ od_gcd_of an_gcd_of od_factors_of an_factors_of od_l_told an_l_told od_law an_law : Option Addr}
    {xk0_NoDivision xk1_NoDivision xk2_NoDivision xk3_NoDivision xk5_NoDivision xk0_TooLarge xk1_TooLarge xk2_TooLarge xk3_TooLarge xk5_TooLarge : Option Value}
    {oc_NoDivision___init__ kV_NoDivision___init__ dc_NoDivision___init__ pm_NoDivision___init__ cd_NoDivision___init__ ct_NoDivision___init__ oc_TooLarge___init__ kV_TooLarge___init__ dc_TooLarge___init__ pm_TooLarge___init__ cd_TooLarge___init__ ct_TooLarge___init__ oc_divided kV_divided dc_divided pm_divided cd_divided ct_divided oc_Poly___init__ kV_Poly___init__ dc_Poly___init__ pm_Poly___init__ cd_Poly___init__ ct_Poly___init__ ocT_Poly___init__ oc_Poly_degree kV_Poly_degree dc_Poly_degree pm_Poly_degree cd_Poly_degree ct_Poly_degree oc_l_start kV_l_start dc_l_start pm_l_start cd_l_start ct_l_start oc_l_draw kV_l_draw dc_l_draw pm_l_draw cd_l_draw ct_l_draw oc_l_times kV_l_times dc_l_times pm_l_times cd_l_times ct_l_times oc_l_divided kV_l_divided dc_l_divided pm_l_divided cd_l_divided ct_l_divided oc_l_counts kV_l_counts dc_l_counts pm_l_counts cd_l_counts ct_l_counts oc_l_primes kV_l_primes dc_l_primes pm_l_primes cd_l_primes ct_l_primes oc_l_row kV_l_row dc_l_row pm_l_row cd_l_row ct_l_row oc_l_product kV_l_product dc_l_product pm_l_product cd_l_product ct_l_product oc_Poly___floordiv__ kV_Poly___floordiv__ dc_Poly___floordiv__ pm_Poly___floordiv__ cd_Poly___floordiv__ ct_Poly___floordiv__ oc_Poly___mod__ kV_Poly___mod__ dc_Poly___mod__ pm_Poly___mod__ cd_Poly___mod__ ct_Poly___mod__ oc_gcd_of kV_gcd_of dc_gcd_of pm_gcd_of cd_gcd_of ct_gcd_of oc_factors_of kV_factors_of dc_factors_of pm_factors_of cd_factors_of ct_factors_of oc_l_told kV_l_told dc_l_told pm_l_told cd_l_told ct_l_told oc_law kV_law dc_law pm_law cd_law ct_law : Value}
    {sl_NoDivision___init__ sl_TooLarge___init__ sl_divided sl_Poly___init__ slT_Poly___init__ sl_Poly_degree sl_l_start sl_l_draw sl_l_times sl_l_divided sl_l_counts sl_l_primes sl_l_row sl_l_product sl_Poly___floordiv__ sl_Poly___mod__ sl_gcd_of sl_factors_of sl_l_told sl_law : Array (Option Value)}
    {its_Poly___init__ : Array Value}
    {nT_Poly___init__ : Nat}
    (z_int : PySem.W.nsIn K mainGlobals "int" = some none)
    (z_len : PySem.W.nsIn K mainGlobals "len" = some none)
    (z_list : PySem.W.nsIn K mainGlobals "list" = some none)
    (z_min : PySem.W.nsIn K mainGlobals "min" = some none)
    (z_range : PySem.W.nsIn K mainGlobals "range" = some none)
    (z_set : PySem.W.nsIn K mainGlobals "set" = some none)
    (z_sorted : PySem.W.nsIn K mainGlobals "sorted" = some none)
    (z_sum : PySem.W.nsIn K mainGlobals "sum" = some none)
    (gk_MOST : PySem.W.nsIn K mainGlobals "MOST" = some (some (.int 24 tk_MOST)))
    (a_Poly : PySem.W.nsIn K mainGlobals "Poly" = some (some (.ref C_Poly)))
    (pg_Poly : PySem.W.plainGet K C_Poly Str.empty = true)
    (hd_Poly : PySem.W.hasDictIn K C_Poly = true)
    (po_Poly : PySem.W.plainOver K C_Poly = true)
    (sa_Poly : PySem.W.findIn K (.ref C_Poly) "__setattr__" = some (some (.builtin "object.__setattr__")))
    (a_BitsError : PySem.W.nsIn K mainGlobals "BitsError" = some (some (.ref C_BitsError)))
    (rd_BitsError : PySem.W.readsIn K C_BitsError (.type "type") = true)
    (ga_BitsError : PySem.W.specialIn K (.ref C_BitsError) "__getattribute__" = some (some (.builtin "type.__getattribute__")))
    (fi_BitsError : PySem.W.findCls K (.ref C_BitsError) (.type "type") "__init__" = some (.val (.builtin "ValueError.__init__")))
    (a_NoDivision : PySem.W.nsIn K mainGlobals "NoDivision" = some (some (.ref C_NoDivision)))
    (ty_NoDivision : PySem.W.typeIn K (.ref C_NoDivision) = some (.type "type"))
    (hd_NoDivision : PySem.W.hasDictIn K C_NoDivision = true)
    (xb_NoDivision : PySem.W.subIn K (.ref C_NoDivision) (.type "BaseException") = some true)
    (lk_NoDivision : K.lookup C_NoDivision = some (excClassObj xnm_NoDivision xq_NoDivision C_NoDivision xN_NoDivision xbs_NoDivision xbm_NoDivision true xsn_NoDivision xsub_NoDivision xab_NoDivision xcol_NoDivision xdd_NoDivision xk0_NoDivision xk1_NoDivision xk2_NoDivision xk3_NoDivision xk5_NoDivision "ValueError.__new__"))
    (vb_NoDivision : PySem.HandSPX.refsVE xbm_NoDivision = true)
    (sa_NoDivision : PySem.W.findIn K (.ref C_NoDivision) "__setattr__" = some (some (.builtin "object.__setattr__")))
    (kp_NoDivision : PySem.W.keepIn K (.ref C_NoDivision) = true)
    (a_TooLarge : PySem.W.nsIn K mainGlobals "TooLarge" = some (some (.ref C_TooLarge)))
    (ty_TooLarge : PySem.W.typeIn K (.ref C_TooLarge) = some (.type "type"))
    (hd_TooLarge : PySem.W.hasDictIn K C_TooLarge = true)
    (xb_TooLarge : PySem.W.subIn K (.ref C_TooLarge) (.type "BaseException") = some true)
    (lk_TooLarge : K.lookup C_TooLarge = some (excClassObj xnm_TooLarge xq_TooLarge C_TooLarge xN_TooLarge xbs_TooLarge xbm_TooLarge true xsn_TooLarge xsub_TooLarge xab_TooLarge xcol_TooLarge xdd_TooLarge xk0_TooLarge xk1_TooLarge xk2_TooLarge xk3_TooLarge xk5_TooLarge "ValueError.__new__"))
    (vb_TooLarge : PySem.HandSPX.refsVE xbm_TooLarge = true)
    (sa_TooLarge : PySem.W.findIn K (.ref C_TooLarge) "__setattr__" = some (some (.builtin "object.__setattr__")))
    (kp_TooLarge : PySem.W.keepIn K (.ref C_TooLarge) = true)
    (nx_TooLarge_size : PySem.W.findIn K (.ref C_TooLarge) "size" = some none)
    (na_Poly_number : PySem.W.findIn K (.ref C_Poly) "number" = some none)
    (sf_Poly : PySem.W.selfFirst K C_Poly = true)
    (g_NoDivision___init__ : PySem.W.findIn K (.ref C_NoDivision) "__init__" = some (some (.ref f_NoDivision___init__)))
    (i_NoDivision___init__ : PySem.W.isFn K (.ref f_NoDivision___init__) = true)
    (l_NoDivision___init__ : K.lookup f_NoDivision___init__ = some ⟨oc_NoDivision___init__, od_NoDivision___init__, .func (PySem.W.fnOf "__init__" "NoDivision.__init__" (defArgs s_NoDivision___init__) (defBody s_NoDivision___init__) (defScope s_NoDivision___init__) .none kV_NoDivision___init__ dc_NoDivision___init__ pm_NoDivision___init__ an_NoDivision___init__ cd_NoDivision___init__ ct_NoDivision___init__), sl_NoDivision___init__⟩)
    (e_NoDivision___init__ : PySem.W.codeIn K cd_NoDivision___init__ "NoDivision.__init__" = true)
    (k_NoDivision___init__ : PySem.W.keepIn K (.ref f_NoDivision___init__) = true)
    (it_NoDivision : PySem.W.typeIn K (.ref f_NoDivision___init__) = some (.type "function"))
    (g_TooLarge___init__ : PySem.W.findIn K (.ref C_TooLarge) "__init__" = some (some (.ref f_TooLarge___init__)))
    (i_TooLarge___init__ : PySem.W.isFn K (.ref f_TooLarge___init__) = true)
    (l_TooLarge___init__ : K.lookup f_TooLarge___init__ = some ⟨oc_TooLarge___init__, od_TooLarge___init__, .func (PySem.W.fnOf "__init__" "TooLarge.__init__" (defArgs s_TooLarge___init__) (defBody s_TooLarge___init__) (defScope s_TooLarge___init__) .none kV_TooLarge___init__ dc_TooLarge___init__ pm_TooLarge___init__ an_TooLarge___init__ cd_TooLarge___init__ ct_TooLarge___init__), sl_TooLarge___init__⟩)
    (e_TooLarge___init__ : PySem.W.codeIn K cd_TooLarge___init__ "TooLarge.__init__" = true)
    (k_TooLarge___init__ : PySem.W.keepIn K (.ref f_TooLarge___init__) = true)
    (it_TooLarge : PySem.W.typeIn K (.ref f_TooLarge___init__) = some (.type "function"))
    (g_divided : PySem.W.nsIn K mainGlobals "divided" = some (some (.ref f_divided)))
    (l_divided : K.lookup f_divided = some ⟨oc_divided, od_divided, .func (PySem.W.fnOf "divided" "divided" (defArgs s_divided) (defBody s_divided) (defScope s_divided) .none kV_divided dc_divided pm_divided an_divided cd_divided ct_divided), sl_divided⟩)
    (e_divided : PySem.W.codeIn K cd_divided "divided" = true)
    (k_divided : PySem.W.keepIn K (.ref f_divided) = true)
    (g_Poly___init__ : PySem.W.findIn K (.ref C_Poly) "__init__" = some (some (.ref f_Poly___init__)))
    (i_Poly___init__ : PySem.W.isFn K (.ref f_Poly___init__) = true)
    (l_Poly___init__ : K.lookup f_Poly___init__ = some ⟨oc_Poly___init__, od_Poly___init__, .func (PySem.W.fnOf "__init__" "Poly.__init__" (defArgs s_Poly___init__) (defBody s_Poly___init__) (defScope s_Poly___init__) (.ref TD_Poly___init__) kV_Poly___init__ dc_Poly___init__ pm_Poly___init__ an_Poly___init__ cd_Poly___init__ ct_Poly___init__), sl_Poly___init__⟩)
    (e_Poly___init__ : PySem.W.codeIn K cd_Poly___init__ "Poly.__init__" = true)
    (k_Poly___init__ : PySem.W.keepIn K (.ref f_Poly___init__) = true)
    (lT_Poly___init__ : K.lookup TD_Poly___init__ = some ⟨ocT_Poly___init__, odT_Poly___init__, .seq its_Poly___init__ nT_Poly___init__, slT_Poly___init__⟩)
    (vT_Poly___init__ : L2.Vals [V.int 0] its_Poly___init__.toList)
    (mk_Poly : PySem.W.makesIn K C_Poly = true)
    (kp_Poly : PySem.W.keepIn K (.ref C_Poly) = true)
    (g_Poly_degree : PySem.W.findIn K (.ref C_Poly) "degree" = some (some (.ref p_Poly_degree)))
    (h_Poly_degree : PySem.W.specialIn K (.ref p_Poly_degree) "__get__" = some (some (.builtin "property.__get__")))
    (t_Poly_degree : PySem.W.takesIn K (.ref p_Poly_degree) = some true)
    (r_Poly_degree : PySem.W.recIn K p_Poly_degree "property" = some (.ref f_Poly_degree :: rs_Poly_degree))
    (l_Poly_degree : K.lookup f_Poly_degree = some ⟨oc_Poly_degree, od_Poly_degree, .func (PySem.W.fnOf "degree" "Poly.degree" (defArgs s_Poly_degree) (defBody s_Poly_degree) (defScope s_Poly_degree) .none kV_Poly_degree dc_Poly_degree pm_Poly_degree an_Poly_degree cd_Poly_degree ct_Poly_degree), sl_Poly_degree⟩)
    (e_Poly_degree : PySem.W.codeIn K cd_Poly_degree "Poly.degree" = true)
    (k_Poly_degree : PySem.W.keepIn K (.ref f_Poly_degree) = true)
    (g_l_start : PySem.W.nsIn K mainGlobals "_law_start" = some (some (.ref f_l_start)))
    (l_l_start : K.lookup f_l_start = some ⟨oc_l_start, od_l_start, .func (PySem.W.fnOf "_law_start" "_law_start" (defArgs s_l_start) (defBody s_l_start) (defScope s_l_start) .none kV_l_start dc_l_start pm_l_start an_l_start cd_l_start ct_l_start), sl_l_start⟩)
    (e_l_start : PySem.W.codeIn K cd_l_start "_law_start" = true)
    (k_l_start : PySem.W.keepIn K (.ref f_l_start) = true)
    (g_l_draw : PySem.W.nsIn K mainGlobals "_law_draw" = some (some (.ref f_l_draw)))
    (l_l_draw : K.lookup f_l_draw = some ⟨oc_l_draw, od_l_draw, .func (PySem.W.fnOf "_law_draw" "_law_draw" (defArgs s_l_draw) (defBody s_l_draw) (defScope s_l_draw) .none kV_l_draw dc_l_draw pm_l_draw an_l_draw cd_l_draw ct_l_draw), sl_l_draw⟩)
    (e_l_draw : PySem.W.codeIn K cd_l_draw "_law_draw" = true)
    (k_l_draw : PySem.W.keepIn K (.ref f_l_draw) = true)
    (g_l_times : PySem.W.nsIn K mainGlobals "_law_times" = some (some (.ref f_l_times)))
    (l_l_times : K.lookup f_l_times = some ⟨oc_l_times, od_l_times, .func (PySem.W.fnOf "_law_times" "_law_times" (defArgs s_l_times) (defBody s_l_times) (defScope s_l_times) .none kV_l_times dc_l_times pm_l_times an_l_times cd_l_times ct_l_times), sl_l_times⟩)
    (e_l_times : PySem.W.codeIn K cd_l_times "_law_times" = true)
    (k_l_times : PySem.W.keepIn K (.ref f_l_times) = true)
    (g_l_divided : PySem.W.nsIn K mainGlobals "_law_divided" = some (some (.ref f_l_divided)))
    (l_l_divided : K.lookup f_l_divided = some ⟨oc_l_divided, od_l_divided, .func (PySem.W.fnOf "_law_divided" "_law_divided" (defArgs s_l_divided) (defBody s_l_divided) (defScope s_l_divided) .none kV_l_divided dc_l_divided pm_l_divided an_l_divided cd_l_divided ct_l_divided), sl_l_divided⟩)
    (e_l_divided : PySem.W.codeIn K cd_l_divided "_law_divided" = true)
    (k_l_divided : PySem.W.keepIn K (.ref f_l_divided) = true)
    (g_l_counts : PySem.W.nsIn K mainGlobals "_law_counts" = some (some (.ref f_l_counts)))
    (l_l_counts : K.lookup f_l_counts = some ⟨oc_l_counts, od_l_counts, .func (PySem.W.fnOf "_law_counts" "_law_counts" (defArgs s_l_counts) (defBody s_l_counts) (defScope s_l_counts) .none kV_l_counts dc_l_counts pm_l_counts an_l_counts cd_l_counts ct_l_counts), sl_l_counts⟩)
    (e_l_counts : PySem.W.codeIn K cd_l_counts "_law_counts" = true)
    (k_l_counts : PySem.W.keepIn K (.ref f_l_counts) = true)
    (g_l_primes : PySem.W.nsIn K mainGlobals "_law_primes" = some (some (.ref f_l_primes)))
    (l_l_primes : K.lookup f_l_primes = some ⟨oc_l_primes, od_l_primes, .func (PySem.W.fnOf "_law_primes" "_law_primes" (defArgs s_l_primes) (defBody s_l_primes) (defScope s_l_primes) .none kV_l_primes dc_l_primes pm_l_primes an_l_primes cd_l_primes ct_l_primes), sl_l_primes⟩)
    (e_l_primes : PySem.W.codeIn K cd_l_primes "_law_primes" = true)
    (k_l_primes : PySem.W.keepIn K (.ref f_l_primes) = true)
    (g_l_row : PySem.W.nsIn K mainGlobals "_law_row" = some (some (.ref f_l_row)))
    (l_l_row : K.lookup f_l_row = some ⟨oc_l_row, od_l_row, .func (PySem.W.fnOf "_law_row" "_law_row" (defArgs s_l_row) (defBody s_l_row) (defScope s_l_row) .none kV_l_row dc_l_row pm_l_row an_l_row cd_l_row ct_l_row), sl_l_row⟩)
    (e_l_row : PySem.W.codeIn K cd_l_row "_law_row" = true)
    (k_l_row : PySem.W.keepIn K (.ref f_l_row) = true)
    (g_l_product : PySem.W.nsIn K mainGlobals "_law_product" = some (some (.ref f_l_product)))
    (l_l_product : K.lookup f_l_product = some ⟨oc_l_product, od_l_product, .func (PySem.W.fnOf "_law_product" "_law_product" (defArgs s_l_product) (defBody s_l_product) (defScope s_l_product) .none kV_l_product dc_l_product pm_l_product an_l_product cd_l_product ct_l_product), sl_l_product⟩)
    (e_l_product : PySem.W.codeIn K cd_l_product "_law_product" = true)
    (k_l_product : PySem.W.keepIn K (.ref f_l_product) = true)
    (g_Poly___floordiv__ : PySem.W.findIn K (.ref C_Poly) "__floordiv__" = some (some (.ref f_Poly___floordiv__)))
    (i_Poly___floordiv__ : PySem.W.isFn K (.ref f_Poly___floordiv__) = true)
    (l_Poly___floordiv__ : K.lookup f_Poly___floordiv__ = some ⟨oc_Poly___floordiv__, od_Poly___floordiv__, .func (PySem.W.fnOf "__floordiv__" "Poly.__floordiv__" (defArgs s_Poly___floordiv__) (defBody s_Poly___floordiv__) (defScope s_Poly___floordiv__) .none kV_Poly___floordiv__ dc_Poly___floordiv__ pm_Poly___floordiv__ an_Poly___floordiv__ cd_Poly___floordiv__ ct_Poly___floordiv__), sl_Poly___floordiv__⟩)
    (e_Poly___floordiv__ : PySem.W.codeIn K cd_Poly___floordiv__ "Poly.__floordiv__" = true)
    (k_Poly___floordiv__ : PySem.W.keepIn K (.ref f_Poly___floordiv__) = true)
    (g_Poly___mod__ : PySem.W.findIn K (.ref C_Poly) "__mod__" = some (some (.ref f_Poly___mod__)))
    (i_Poly___mod__ : PySem.W.isFn K (.ref f_Poly___mod__) = true)
    (l_Poly___mod__ : K.lookup f_Poly___mod__ = some ⟨oc_Poly___mod__, od_Poly___mod__, .func (PySem.W.fnOf "__mod__" "Poly.__mod__" (defArgs s_Poly___mod__) (defBody s_Poly___mod__) (defScope s_Poly___mod__) .none kV_Poly___mod__ dc_Poly___mod__ pm_Poly___mod__ an_Poly___mod__ cd_Poly___mod__ ct_Poly___mod__), sl_Poly___mod__⟩)
    (e_Poly___mod__ : PySem.W.codeIn K cd_Poly___mod__ "Poly.__mod__" = true)
    (k_Poly___mod__ : PySem.W.keepIn K (.ref f_Poly___mod__) = true)
    (g_gcd_of : PySem.W.nsIn K mainGlobals "gcd_of" = some (some (.ref f_gcd_of)))
    (l_gcd_of : K.lookup f_gcd_of = some ⟨oc_gcd_of, od_gcd_of, .func (PySem.W.fnOf "gcd_of" "gcd_of" (defArgs s_gcd_of) (defBody s_gcd_of) (defScope s_gcd_of) .none kV_gcd_of dc_gcd_of pm_gcd_of an_gcd_of cd_gcd_of ct_gcd_of), sl_gcd_of⟩)
    (e_gcd_of : PySem.W.codeIn K cd_gcd_of "gcd_of" = true)
    (k_gcd_of : PySem.W.keepIn K (.ref f_gcd_of) = true)
    (g_factors_of : PySem.W.nsIn K mainGlobals "factors_of" = some (some (.ref f_factors_of)))
    (l_factors_of : K.lookup f_factors_of = some ⟨oc_factors_of, od_factors_of, .func (PySem.W.fnOf "factors_of" "factors_of" (defArgs s_factors_of) (defBody s_factors_of) (defScope s_factors_of) .none kV_factors_of dc_factors_of pm_factors_of an_factors_of cd_factors_of ct_factors_of), sl_factors_of⟩)
    (e_factors_of : PySem.W.codeIn K cd_factors_of "factors_of" = true)
    (k_factors_of : PySem.W.keepIn K (.ref f_factors_of) = true)
    (g_l_told : PySem.W.nsIn K mainGlobals "_law_told" = some (some (.ref f_l_told)))
    (l_l_told : K.lookup f_l_told = some ⟨oc_l_told, od_l_told, .func (PySem.W.fnOf "_law_told" "_law_told" (defArgs s_l_told) (defBody s_l_told) (defScope s_l_told) .none kV_l_told dc_l_told pm_l_told an_l_told cd_l_told ct_l_told), sl_l_told⟩)
    (e_l_told : PySem.W.codeIn K cd_l_told "_law_told" = true)
    (k_l_told : PySem.W.keepIn K (.ref f_l_told) = true)
    (g_law : PySem.W.nsIn K mainGlobals "law" = some (some (.ref f_law)))
    (l_law : K.lookup f_law = some ⟨oc_law, od_law, .func (PySem.W.fnOf "law" "law" (defArgs s_law) (defBody s_law) (defScope s_law) .none kV_law dc_law pm_law an_law cd_law ct_law), sl_law⟩)
    (e_law : PySem.W.codeIn K cd_law "law" = true)
    (k_law : PySem.W.keepIn K (.ref f_law) = true)
    : ∃ fd : FuncData, (∀ (s : Shared) (v : Value), BindsTo s fd ⟨[v], []⟩ [("_law_script", v)]) ∧ ∀ base : Heap, K.In base → base.Ns mainGlobals mg → FnOk l.prog w K mg base (L2.CX l.prog w) 6 fa fd ["_law_script"] (spLaw K) := by
  have e := Option.some.inj ((PySem.W.mg_of X G g_law).symm.trans hfa)
  have e2 : f_law = fa := by injection e
  subst e2
  let T : Tx K mg := {
    z_int := (PySem.W.mg_none_of X G z_int)
    z_len := (PySem.W.mg_none_of X G z_len)
    z_list := (PySem.W.mg_none_of X G z_list)
    z_min := (PySem.W.mg_none_of X G z_min)
    z_range := (PySem.W.mg_none_of X G z_range)
    z_set := (PySem.W.mg_none_of X G z_set)
    z_sorted := (PySem.W.mg_none_of X G z_sorted)
    z_sum := (PySem.W.mg_none_of X G z_sum)
    kt_MOST := (tk_MOST)
    k_MOST := (PySem.W.mg_of X G gk_MOST)
    c_Poly := (C_Poly)
    m_Poly := (PySem.W.mg_of X G a_Poly)
    cl_Poly := (⟨pg_Poly, hd_Poly, po_Poly, sa_Poly⟩)
    c_BitsError := (C_BitsError)
    m_BitsError := (PySem.W.mg_of X G a_BitsError)
    rd_BitsError := (rd_BitsError)
    ga_BitsError := (ga_BitsError)
    fi_BitsError := (fi_BitsError)
    c_NoDivision := (C_NoDivision)
    m_NoDivision := (PySem.W.mg_of X G a_NoDivision)
    ty_NoDivision := (ty_NoDivision)
    hd_NoDivision := (hd_NoDivision)
    xb_NoDivision := (xb_NoDivision)
    ox_NoDivision := (⟨⟨_, _, _, _, _, _, _, _, _, _, _, _, _, _, _, lk_NoDivision, vb_NoDivision⟩, sa_NoDivision, xb_NoDivision, ty_NoDivision, kp_NoDivision⟩)
    c_TooLarge := (C_TooLarge)
    m_TooLarge := (PySem.W.mg_of X G a_TooLarge)
    ty_TooLarge := (ty_TooLarge)
    hd_TooLarge := (hd_TooLarge)
    xb_TooLarge := (xb_TooLarge)
    ox_TooLarge := (⟨⟨_, _, _, _, _, _, _, _, _, _, _, _, _, _, _, lk_TooLarge, vb_TooLarge⟩, sa_TooLarge, xb_TooLarge, ty_TooLarge, kp_TooLarge⟩)
    nx_TooLarge_size := (nx_TooLarge_size)
    na_Poly_number := (na_Poly_number)
    sf_Poly := (sf_Poly)
    f_NoDivision___init__ := (f_NoDivision___init__)
    d_NoDivision___init__ := (PySem.W.fnOf "__init__" "NoDivision.__init__" (defArgs s_NoDivision___init__) (defBody s_NoDivision___init__) (defScope s_NoDivision___init__) .none kV_NoDivision___init__ dc_NoDivision___init__ pm_NoDivision___init__ an_NoDivision___init__ cd_NoDivision___init__ ct_NoDivision___init__)
    F_NoDivision___init__ := (fun_mk (st := s_NoDivision___init__) l_NoDivision___init__ e_NoDivision___init__ k_NoDivision___init__)
    b_NoDivision___init__ := ((fun_mk (st := s_NoDivision___init__) l_NoDivision___init__ e_NoDivision___init__ k_NoDivision___init__).binds (ps := ["self"]) fun _ _ _ _ _ _ us hl => match us, hl with | [_], _ => rfl)
    ii_NoDivision := (g_NoDivision___init__)
    it_NoDivision := (it_NoDivision)
    f_TooLarge___init__ := (f_TooLarge___init__)
    d_TooLarge___init__ := (PySem.W.fnOf "__init__" "TooLarge.__init__" (defArgs s_TooLarge___init__) (defBody s_TooLarge___init__) (defScope s_TooLarge___init__) .none kV_TooLarge___init__ dc_TooLarge___init__ pm_TooLarge___init__ an_TooLarge___init__ cd_TooLarge___init__ ct_TooLarge___init__)
    F_TooLarge___init__ := (fun_mk (st := s_TooLarge___init__) l_TooLarge___init__ e_TooLarge___init__ k_TooLarge___init__)
    b_TooLarge___init__ := ((fun_mk (st := s_TooLarge___init__) l_TooLarge___init__ e_TooLarge___init__ k_TooLarge___init__).binds (ps := ["self", "size"]) fun _ _ _ _ _ _ us hl => match us, hl with | [_, _], _ => rfl)
    ii_TooLarge := (g_TooLarge___init__)
    it_TooLarge := (it_TooLarge)
    f_divided := (f_divided)
    d_divided := (PySem.W.fnOf "divided" "divided" (defArgs s_divided) (defBody s_divided) (defScope s_divided) .none kV_divided dc_divided pm_divided an_divided cd_divided ct_divided)
    F_divided := (fun_mk (st := s_divided) l_divided e_divided k_divided)
    b_divided := ((fun_mk (st := s_divided) l_divided e_divided k_divided).binds (ps := ["one", "other"]) fun _ _ _ _ _ _ us hl => match us, hl with | [_, _], _ => rfl)
    m_divided := (PySem.W.mg_of X G g_divided)
    f_Poly___init__ := (f_Poly___init__)
    d_Poly___init__ := (PySem.W.fnOf "__init__" "Poly.__init__" (defArgs s_Poly___init__) (defBody s_Poly___init__) (defScope s_Poly___init__) (.ref TD_Poly___init__) kV_Poly___init__ dc_Poly___init__ pm_Poly___init__ an_Poly___init__ cd_Poly___init__ ct_Poly___init__)
    F_Poly___init__ := ((⟨⟨oc_Poly___init__, od_Poly___init__, _, kV_Poly___init__, dc_Poly___init__, pm_Poly___init__, an_Poly___init__, cd_Poly___init__, ct_Poly___init__, sl_Poly___init__, rfl, l_Poly___init__, e_Poly___init__, .inr ⟨by simp, TD_Poly___init__, _, its_Poly___init__.toList, nT_Poly___init__, rfl, lT_Poly___init__, by simp, vT_Poly___init__⟩, .inl rfl⟩, k_Poly___init__⟩ : FunD K "__init__" "Poly.__init__" (defArgs s_Poly___init__) (defBody s_Poly___init__) (defScope s_Poly___init__) [V.int 0] [] f_Poly___init__ (PySem.W.fnOf "__init__" "Poly.__init__" (defArgs s_Poly___init__) (defBody s_Poly___init__) (defScope s_Poly___init__) (.ref TD_Poly___init__) kV_Poly___init__ dc_Poly___init__ pm_Poly___init__ an_Poly___init__ cd_Poly___init__ ct_Poly___init__)))
    bd0_Poly___init__ := ((⟨⟨oc_Poly___init__, od_Poly___init__, _, kV_Poly___init__, dc_Poly___init__, pm_Poly___init__, an_Poly___init__, cd_Poly___init__, ct_Poly___init__, sl_Poly___init__, rfl, l_Poly___init__, e_Poly___init__, .inr ⟨by simp, TD_Poly___init__, _, its_Poly___init__.toList, nT_Poly___init__, rfl, lT_Poly___init__, by simp, vT_Poly___init__⟩, .inl rfl⟩, k_Poly___init__⟩ : FunD K "__init__" "Poly.__init__" (defArgs s_Poly___init__) (defBody s_Poly___init__) (defScope s_Poly___init__) [V.int 0] [] f_Poly___init__ (PySem.W.fnOf "__init__" "Poly.__init__" (defArgs s_Poly___init__) (defBody s_Poly___init__) (defScope s_Poly___init__) (.ref TD_Poly___init__) kV_Poly___init__ dc_Poly___init__ pm_Poly___init__ an_Poly___init__ cd_Poly___init__ ct_Poly___init__)).binds1 (ps := ["self", "number"]) 2 1 (by simp) rfl fun _ _ _ _ _ _ _ us its h1 h2 => match us, h1, its, h2 with | [_, _], _, [_], _ => ⟨_, rfl, rfl⟩)
    bd1_Poly___init__ := ((⟨⟨oc_Poly___init__, od_Poly___init__, _, kV_Poly___init__, dc_Poly___init__, pm_Poly___init__, an_Poly___init__, cd_Poly___init__, ct_Poly___init__, sl_Poly___init__, rfl, l_Poly___init__, e_Poly___init__, .inr ⟨by simp, TD_Poly___init__, _, its_Poly___init__.toList, nT_Poly___init__, rfl, lT_Poly___init__, by simp, vT_Poly___init__⟩, .inl rfl⟩, k_Poly___init__⟩ : FunD K "__init__" "Poly.__init__" (defArgs s_Poly___init__) (defBody s_Poly___init__) (defScope s_Poly___init__) [V.int 0] [] f_Poly___init__ (PySem.W.fnOf "__init__" "Poly.__init__" (defArgs s_Poly___init__) (defBody s_Poly___init__) (defScope s_Poly___init__) (.ref TD_Poly___init__) kV_Poly___init__ dc_Poly___init__ pm_Poly___init__ an_Poly___init__ cd_Poly___init__ ct_Poly___init__)).binds1 (ps := ["self", "number"]) 1 0 (by simp) rfl fun _ _ _ _ _ _ _ us its h1 h2 => match us, h1, its, h2 with | [_], _, [_], _ => ⟨_, rfl, rfl⟩)
    mk_Poly := (⟨mk_Poly, g_Poly___init__, i_Poly___init__, kp_Poly⟩)
    f_Poly_degree := (f_Poly_degree)
    d_Poly_degree := (PySem.W.fnOf "degree" "Poly.degree" (defArgs s_Poly_degree) (defBody s_Poly_degree) (defScope s_Poly_degree) .none kV_Poly_degree dc_Poly_degree pm_Poly_degree an_Poly_degree cd_Poly_degree ct_Poly_degree)
    F_Poly_degree := (fun_mk (st := s_Poly_degree) l_Poly_degree e_Poly_degree k_Poly_degree)
    b_Poly_degree := ((fun_mk (st := s_Poly_degree) l_Poly_degree e_Poly_degree k_Poly_degree).binds (ps := ["self"]) fun _ _ _ _ _ _ us hl => match us, hl with | [_], _ => rfl)
    p_Poly_degree := (p_Poly_degree)
    pr_Poly_degree := (⟨g_Poly_degree, h_Poly_degree, t_Poly_degree, _, r_Poly_degree⟩)
    f_l_start := (f_l_start)
    d_l_start := (PySem.W.fnOf "_law_start" "_law_start" (defArgs s_l_start) (defBody s_l_start) (defScope s_l_start) .none kV_l_start dc_l_start pm_l_start an_l_start cd_l_start ct_l_start)
    F_l_start := (fun_mk (st := s_l_start) l_l_start e_l_start k_l_start)
    b_l_start := ((fun_mk (st := s_l_start) l_l_start e_l_start k_l_start).binds (ps := ["_law_script"]) fun _ _ _ _ _ _ us hl => match us, hl with | [_], _ => rfl)
    m_l_start := (PySem.W.mg_of X G g_l_start)
    f_l_draw := (f_l_draw)
    d_l_draw := (PySem.W.fnOf "_law_draw" "_law_draw" (defArgs s_l_draw) (defBody s_l_draw) (defScope s_l_draw) .none kV_l_draw dc_l_draw pm_l_draw an_l_draw cd_l_draw ct_l_draw)
    F_l_draw := (fun_mk (st := s_l_draw) l_l_draw e_l_draw k_l_draw)
    b_l_draw := ((fun_mk (st := s_l_draw) l_l_draw e_l_draw k_l_draw).binds (ps := ["_law_state", "_law_many"]) fun _ _ _ _ _ _ us hl => match us, hl with | [_, _], _ => rfl)
    m_l_draw := (PySem.W.mg_of X G g_l_draw)
    f_l_times := (f_l_times)
    d_l_times := (PySem.W.fnOf "_law_times" "_law_times" (defArgs s_l_times) (defBody s_l_times) (defScope s_l_times) .none kV_l_times dc_l_times pm_l_times an_l_times cd_l_times ct_l_times)
    F_l_times := (fun_mk (st := s_l_times) l_l_times e_l_times k_l_times)
    b_l_times := ((fun_mk (st := s_l_times) l_l_times e_l_times k_l_times).binds (ps := ["_law_one", "_law_other"]) fun _ _ _ _ _ _ us hl => match us, hl with | [_, _], _ => rfl)
    m_l_times := (PySem.W.mg_of X G g_l_times)
    f_l_divided := (f_l_divided)
    d_l_divided := (PySem.W.fnOf "_law_divided" "_law_divided" (defArgs s_l_divided) (defBody s_l_divided) (defScope s_l_divided) .none kV_l_divided dc_l_divided pm_l_divided an_l_divided cd_l_divided ct_l_divided)
    F_l_divided := (fun_mk (st := s_l_divided) l_l_divided e_l_divided k_l_divided)
    b_l_divided := ((fun_mk (st := s_l_divided) l_l_divided e_l_divided k_l_divided).binds (ps := ["_law_one", "_law_other"]) fun _ _ _ _ _ _ us hl => match us, hl with | [_, _], _ => rfl)
    m_l_divided := (PySem.W.mg_of X G g_l_divided)
    f_l_counts := (f_l_counts)
    d_l_counts := (PySem.W.fnOf "_law_counts" "_law_counts" (defArgs s_l_counts) (defBody s_l_counts) (defScope s_l_counts) .none kV_l_counts dc_l_counts pm_l_counts an_l_counts cd_l_counts ct_l_counts)
    F_l_counts := (fun_mk (st := s_l_counts) l_l_counts e_l_counts k_l_counts)
    b_l_counts := ((fun_mk (st := s_l_counts) l_l_counts e_l_counts k_l_counts).binds (ps := ["_law_row_here"]) fun _ _ _ _ _ _ us hl => match us, hl with | [_], _ => rfl)
    m_l_counts := (PySem.W.mg_of X G g_l_counts)
    f_l_primes := (f_l_primes)
    d_l_primes := (PySem.W.fnOf "_law_primes" "_law_primes" (defArgs s_l_primes) (defBody s_l_primes) (defScope s_l_primes) .none kV_l_primes dc_l_primes pm_l_primes an_l_primes cd_l_primes ct_l_primes)
    F_l_primes := (fun_mk (st := s_l_primes) l_l_primes e_l_primes k_l_primes)
    b_l_primes := ((fun_mk (st := s_l_primes) l_l_primes e_l_primes k_l_primes).binds (ps := []) fun _ _ _ _ _ _ us hl => match us, hl with | [], _ => rfl)
    m_l_primes := (PySem.W.mg_of X G g_l_primes)
    f_l_row := (f_l_row)
    d_l_row := (PySem.W.fnOf "_law_row" "_law_row" (defArgs s_l_row) (defBody s_l_row) (defScope s_l_row) .none kV_l_row dc_l_row pm_l_row an_l_row cd_l_row ct_l_row)
    F_l_row := (fun_mk (st := s_l_row) l_l_row e_l_row k_l_row)
    b_l_row := ((fun_mk (st := s_l_row) l_l_row e_l_row k_l_row).binds (ps := ["_law_state", "_law_primes_here", "_law_script"]) fun _ _ _ _ _ _ us hl => match us, hl with | [_, _, _], _ => rfl)
    m_l_row := (PySem.W.mg_of X G g_l_row)
    f_l_product := (f_l_product)
    d_l_product := (PySem.W.fnOf "_law_product" "_law_product" (defArgs s_l_product) (defBody s_l_product) (defScope s_l_product) .none kV_l_product dc_l_product pm_l_product an_l_product cd_l_product ct_l_product)
    F_l_product := (fun_mk (st := s_l_product) l_l_product e_l_product k_l_product)
    b_l_product := ((fun_mk (st := s_l_product) l_l_product e_l_product k_l_product).binds (ps := ["_law_row_here"]) fun _ _ _ _ _ _ us hl => match us, hl with | [_], _ => rfl)
    m_l_product := (PySem.W.mg_of X G g_l_product)
    f_Poly___floordiv__ := (f_Poly___floordiv__)
    d_Poly___floordiv__ := (PySem.W.fnOf "__floordiv__" "Poly.__floordiv__" (defArgs s_Poly___floordiv__) (defBody s_Poly___floordiv__) (defScope s_Poly___floordiv__) .none kV_Poly___floordiv__ dc_Poly___floordiv__ pm_Poly___floordiv__ an_Poly___floordiv__ cd_Poly___floordiv__ ct_Poly___floordiv__)
    F_Poly___floordiv__ := (fun_mk (st := s_Poly___floordiv__) l_Poly___floordiv__ e_Poly___floordiv__ k_Poly___floordiv__)
    b_Poly___floordiv__ := ((fun_mk (st := s_Poly___floordiv__) l_Poly___floordiv__ e_Poly___floordiv__ k_Poly___floordiv__).binds (ps := ["self", "other"]) fun _ _ _ _ _ _ us hl => match us, hl with | [_, _], _ => rfl)
    me_Poly___floordiv__ := (⟨g_Poly___floordiv__, i_Poly___floordiv__, k_Poly___floordiv__⟩)
    ow_Poly___floordiv__ := (⟨g_Poly___floordiv__, i_Poly___floordiv__⟩)
    f_Poly___mod__ := (f_Poly___mod__)
    d_Poly___mod__ := (PySem.W.fnOf "__mod__" "Poly.__mod__" (defArgs s_Poly___mod__) (defBody s_Poly___mod__) (defScope s_Poly___mod__) .none kV_Poly___mod__ dc_Poly___mod__ pm_Poly___mod__ an_Poly___mod__ cd_Poly___mod__ ct_Poly___mod__)
    F_Poly___mod__ := (fun_mk (st := s_Poly___mod__) l_Poly___mod__ e_Poly___mod__ k_Poly___mod__)
    b_Poly___mod__ := ((fun_mk (st := s_Poly___mod__) l_Poly___mod__ e_Poly___mod__ k_Poly___mod__).binds (ps := ["self", "other"]) fun _ _ _ _ _ _ us hl => match us, hl with | [_, _], _ => rfl)
    me_Poly___mod__ := (⟨g_Poly___mod__, i_Poly___mod__, k_Poly___mod__⟩)
    ow_Poly___mod__ := (⟨g_Poly___mod__, i_Poly___mod__⟩)
    f_gcd_of := (f_gcd_of)
    d_gcd_of := (PySem.W.fnOf "gcd_of" "gcd_of" (defArgs s_gcd_of) (defBody s_gcd_of) (defScope s_gcd_of) .none kV_gcd_of dc_gcd_of pm_gcd_of an_gcd_of cd_gcd_of ct_gcd_of)
    F_gcd_of := (fun_mk (st := s_gcd_of) l_gcd_of e_gcd_of k_gcd_of)
    b_gcd_of := ((fun_mk (st := s_gcd_of) l_gcd_of e_gcd_of k_gcd_of).binds (ps := ["a", "b"]) fun _ _ _ _ _ _ us hl => match us, hl with | [_, _], _ => rfl)
    m_gcd_of := (PySem.W.mg_of X G g_gcd_of)
    f_factors_of := (f_factors_of)
    d_factors_of := (PySem.W.fnOf "factors_of" "factors_of" (defArgs s_factors_of) (defBody s_factors_of) (defScope s_factors_of) .none kV_factors_of dc_factors_of pm_factors_of an_factors_of cd_factors_of ct_factors_of)
    F_factors_of := (fun_mk (st := s_factors_of) l_factors_of e_factors_of k_factors_of)
    b_factors_of := ((fun_mk (st := s_factors_of) l_factors_of e_factors_of k_factors_of).binds (ps := ["a"]) fun _ _ _ _ _ _ us hl => match us, hl with | [_], _ => rfl)
    m_factors_of := (PySem.W.mg_of X G g_factors_of)
    f_l_told := (f_l_told)
    d_l_told := (PySem.W.fnOf "_law_told" "_law_told" (defArgs s_l_told) (defBody s_l_told) (defScope s_l_told) .none kV_l_told dc_l_told pm_l_told an_l_told cd_l_told ct_l_told)
    F_l_told := (fun_mk (st := s_l_told) l_l_told e_l_told k_l_told)
    b_l_told := ((fun_mk (st := s_l_told) l_l_told e_l_told k_l_told).binds (ps := ["_law_number"]) fun _ _ _ _ _ _ us hl => match us, hl with | [_], _ => rfl)
    m_l_told := (PySem.W.mg_of X G g_l_told)
    f_law := (f_law)
    d_law := (PySem.W.fnOf "law" "law" (defArgs s_law) (defBody s_law) (defScope s_law) .none kV_law dc_law pm_law an_law cd_law ct_law)
    F_law := (fun_mk (st := s_law) l_law e_law k_law)
    b_law := ((fun_mk (st := s_law) l_law e_law k_law).binds (ps := ["_law_script"]) fun _ _ _ _ _ _ us hl => match us, hl with | [_], _ => rfl)
    m_law := (PySem.W.mg_of X G g_law) }
  exact ⟨T.d_law, fun s v => .of_eq rfl, fun base _ _ => law_end T⟩
theorem walk {l : PySem.W.OpenLaw} {q : Program} {loose : List Str} {XP : (Str → Option Value) → Heap → Prop} {YP : World → Heap → Prop} {d : DefRec} {K : Params → PySem.W.Frag} (hn : l.most = some 63) (hdf : d.params.defaults = [])
    (hY : ∀ (w : World) (h : Heap), YP w h → (K w.params).In h)
    (F : ∀ (w : World) (mg : Str → Option Value) (fa : Addr) (h : Heap), (K w.params).In h → h.Ns mainGlobals mg → mg d.name = some (.ref fa) →
      ∃ fd : FuncData, (∀ (s : Shared) (u : Value), BindsTo s fd ⟨[u], []⟩ [("_law_script", u)]) ∧ ∀ base : Heap, (K w.params).In base → base.Ns mainGlobals mg → FnOk l.prog w (K w.params) mg base (L2.CX l.prog w) 6 fa fd ["_law_script"] (spLaw (K w.params))) :
    PySem.W.WalkO q loose XP YP l.row.toRowW d [] (fun f vs => PySem.call f vs) :=
  walk_ofB (n := 63) (k := 6) (x := "_law_script") (CX := fun w => L2.CX l.prog w) (sp := fun w => spLaw (K w.params)) hn (by decide) hdf ⟨rfl, by decide, by decide⟩ hY F (fun w H a ns hl hb _ hS => spLaw_end a ns hl hb hS) fun w H s e s' z => cx_none z
end
end K05
open PySem PySem.W PyProof.Rows
set_option maxRecDepth 100000 in
set_option maxHeartbeats 0 in
theorem PySem.Challenge.cw_bitsback_k05_whole_products_told_back_holds : PySem.Challenge.rw_bitsback_k05_whole_products_told_back.Holds := by
  refine head_bitsback_k05_whole_products_told_back ?_
  k_fill
  refine K05.walk (l := PySem.Challenge.rw_bitsback_k05_whole_products_told_back) rfl rfl (fun w h Y => PySem.W.kIn_of Y) ?F
  case F =>
    intro w mg fa h KX G hmg
    refine' K05.all_mk KX G hmg ?z_int ?z_len ?z_list ?z_min ?z_range ?z_set ?z_sorted ?z_sum ?gk_MOST ?a_Poly ?pg_Poly ?hd_Poly ?po_Poly ?sa_Poly ?a_BitsError ?rd_BitsError ?ga_BitsError ?fi_BitsError ?a_NoDivision ?ty_NoDivision ?hd_NoDivision ?xb_NoDivision ?lk_NoDivision ?vb_NoDivision ?sa_NoDivision ?kp_NoDivision ?a_TooLarge ?ty_TooLarge ?hd_TooLarge ?xb_TooLarge ?lk_TooLarge ?vb_TooLarge ?sa_TooLarge ?kp_TooLarge ?nx_TooLarge_size ?na_Poly_number ?sf_Poly ?g_NoDivision___init__ ?i_NoDivision___init__ ?l_NoDivision___init__ ?e_NoDivision___init__ ?k_NoDivision___init__ ?it_NoDivision ?g_TooLarge___init__ ?i_TooLarge___init__ ?l_TooLarge___init__ ?e_TooLarge___init__ ?k_TooLarge___init__ ?it_TooLarge ?g_divided ?l_divided ?e_divided ?k_divided ?g_Poly___init__ ?i_Poly___init__ ?l_Poly___init__ ?e_Poly___init__ ?k_Poly___init__ ?lT_Poly___init__ ?vT_Poly___init__ ?mk_Poly ?kp_Poly ?g_Poly_degree ?h_Poly_degree ?t_Poly_degree ?r_Poly_degree ?l_Poly_degree ?e_Poly_degree ?k_Poly_degree ?g_l_start ?l_l_start ?e_l_start ?k_l_start ?g_l_draw ?l_l_draw ?e_l_draw ?k_l_draw ?g_l_times ?l_l_times ?e_l_times ?k_l_times ?g_l_divided ?l_l_divided ?e_l_divided ?k_l_divided ?g_l_counts ?l_l_counts ?e_l_counts ?k_l_counts ?g_l_primes ?l_l_primes ?e_l_primes ?k_l_primes ?g_l_row ?l_l_row ?e_l_row ?k_l_row ?g_l_product ?l_l_product ?e_l_product ?k_l_product ?g_Poly___floordiv__ ?i_Poly___floordiv__ ?l_Poly___floordiv__ ?e_Poly___floordiv__ ?k_Poly___floordiv__ ?g_Poly___mod__ ?i_Poly___mod__ ?l_Poly___mod__ ?e_Poly___mod__ ?k_Poly___mod__ ?g_gcd_of ?l_gcd_of ?e_gcd_of ?k_gcd_of ?g_factors_of ?l_factors_of ?e_factors_of ?k_factors_of ?g_l_told ?l_l_told ?e_l_told ?k_l_told ?g_law ?l_law ?e_law ?k_law
    (case z_int => k_is)
    (case z_len => k_is)
    (case z_list => k_is)
    (case z_min => k_is)
    (case z_range => k_is)
    (case z_set => k_is)
    (case z_sorted => k_is)
    (case z_sum => k_is)
    (case gk_MOST => k_is)
    (case a_Poly => k_is)
    (case pg_Poly => k_is)
    (case hd_Poly => k_is)
    (case po_Poly => k_is)
    (case sa_Poly => k_is)
    (case a_BitsError => k_is)
    (case rd_BitsError => k_is)
    (case ga_BitsError => k_is)
    (case fi_BitsError => k_is)
    (case a_NoDivision => k_is)
    (case ty_NoDivision => k_is)
    (case hd_NoDivision => k_is)
    (case xb_NoDivision => k_is)
    (case lk_NoDivision => k_is)
    (case vb_NoDivision => first | rfl | decide +kernel)
    (case sa_NoDivision => k_is)
    (case kp_NoDivision => k_is)
    (case a_TooLarge => k_is)
    (case ty_TooLarge => k_is)
    (case hd_TooLarge => k_is)
    (case xb_TooLarge => k_is)
    (case lk_TooLarge => k_is)
    (case vb_TooLarge => first | rfl | decide +kernel)
    (case sa_TooLarge => k_is)
    (case kp_TooLarge => k_is)
    (case nx_TooLarge_size => k_is)
    (case na_Poly_number => k_is)
    (case sf_Poly => k_is)
    (case g_NoDivision___init__ => k_is)
    (case i_NoDivision___init__ => k_is)
    (case l_NoDivision___init__ => k_is)
    (case e_NoDivision___init__ => k_is)
    (case k_NoDivision___init__ => k_is)
    (case it_NoDivision => k_is)
    (case g_TooLarge___init__ => k_is)
    (case i_TooLarge___init__ => k_is)
    (case l_TooLarge___init__ => k_is)
    (case e_TooLarge___init__ => k_is)
    (case k_TooLarge___init__ => k_is)
    (case it_TooLarge => k_is)
    (case g_divided => k_is)
    (case l_divided => k_is)
    (case e_divided => k_is)
    (case k_divided => k_is)
    (case g_Poly___init__ => k_is)
    (case i_Poly___init__ => k_is)
    (case l_Poly___init__ => k_is)
    (case e_Poly___init__ => k_is)
    (case k_Poly___init__ => k_is)
    (case lT_Poly___init__ => k_is)
    (case vT_Poly___init__ => open L2 in exact (Paired.cons (show RelV (V.int 0) _ from ⟨_, rfl⟩) Paired.nil))
    (case mk_Poly => k_is)
    (case kp_Poly => k_is)
    (case g_Poly_degree => k_is)
    (case h_Poly_degree => k_is)
    (case t_Poly_degree => k_is)
    (case r_Poly_degree => k_is)
    (case l_Poly_degree => k_is)
    (case e_Poly_degree => k_is)
    (case k_Poly_degree => k_is)
    (case g_l_start => k_is)
    (case l_l_start => k_is)
    (case e_l_start => k_is)
    (case k_l_start => k_is)
    (case g_l_draw => k_is)
    (case l_l_draw => k_is)
    (case e_l_draw => k_is)
    (case k_l_draw => k_is)
    (case g_l_times => k_is)
    (case l_l_times => k_is)
    (case e_l_times => k_is)
    (case k_l_times => k_is)
    (case g_l_divided => k_is)
    (case l_l_divided => k_is)
    (case e_l_divided => k_is)
    (case k_l_divided => k_is)
    (case g_l_counts => k_is)
    (case l_l_counts => k_is)
    (case e_l_counts => k_is)
    (case k_l_counts => k_is)
    (case g_l_primes => k_is)
    (case l_l_primes => k_is)
    (case e_l_primes => k_is)
    (case k_l_primes => k_is)
    (case g_l_row => k_is)
    (case l_l_row => k_is)
    (case e_l_row => k_is)
    (case k_l_row => k_is)
    (case g_l_product => k_is)
    (case l_l_product => k_is)
    (case e_l_product => k_is)
    (case k_l_product => k_is)
    (case g_Poly___floordiv__ => k_is)
    (case i_Poly___floordiv__ => k_is)
    (case l_Poly___floordiv__ => k_is)
    (case e_Poly___floordiv__ => k_is)
    (case k_Poly___floordiv__ => k_is)
    (case g_Poly___mod__ => k_is)
    (case i_Poly___mod__ => k_is)
    (case l_Poly___mod__ => k_is)
    (case e_Poly___mod__ => k_is)
    (case k_Poly___mod__ => k_is)
    (case g_gcd_of => k_is)
    (case l_gcd_of => k_is)
    (case e_gcd_of => k_is)
    (case k_gcd_of => k_is)
    (case g_factors_of => k_is)
    (case l_factors_of => k_is)
    (case e_factors_of => k_is)
    (case k_factors_of => k_is)
    (case g_l_told => k_is)
    (case l_l_told => k_is)
    (case e_l_told => k_is)
    (case k_l_told => k_is)
    (case g_law => k_is)
    (case l_law => k_is)
    (case e_law => k_is)
    (case k_law => k_is)