import PyProof.Rows.All
import Wide.All
import OpenK.AllK
import Wide.FinOn
import Lean
import PySem.Challenge.RW_pf0018_01
open PySem PySem.W PyProof.Rows
set_option Elab.async false
set_option maxRecDepth 100000
set_option maxHeartbeats 8000000
set_option linter.all false
set_option compiler.extract_closed false
namespace Mine
section
noncomputable def stm9 (i : Nat) : Stmt := (List.drop i PySem.Challenge.pw_pf0018_01.main.body).headD (.Pass default)
noncomputable def K (P : Params) : Frag := by
  refine' (fun (α : Prop) (_ : α) (k : Frag) => k) (stm9 4 = .ClassDef _ _ _ [.FunctionDef _ ?a4x0 ?b4x0 _ _ _ ?s4x0 _ _ _] _ _ _ _ _ _ _ ∧
     stm9 8 = .FunctionDef _ ?a8 ?b8 _ _ _ ?s8 _ _ _ ∧
     stm9 9 = .FunctionDef _ ?a9 ?b9 _ _ _ ?s9 _ _ _ ∧
     stm9 10 = .FunctionDef _ ?a10 ?b10 _ _ _ ?s10 _ _ _ ∧
     stm9 11 = .FunctionDef _ ?a11 ?b11 _ _ _ ?s11 _ _ _ ∧
     stm9 12 = .FunctionDef _ ?a12 ?b12 _ _ _ ?s12 _ _ _ ∧
     stm9 13 = .FunctionDef _ ?a13 ?b13 _ _ _ ?s13 _ _ _ ∧
     stm9 14 = .FunctionDef _ ?a14 ?b14 _ _ _ ?s14 _ _ _ ∧
     stm9 15 = .FunctionDef _ ?a15 ?b15 _ _ _ ?s15 _ _ _ ∧
     stm9 16 = .FunctionDef _ ?a16 ?b16 _ _ _ ?s16 _ _ _ ∧
     stm9 17 = .FunctionDef _ ?a17 ?b17 _ _ _ ?s17 _ _ _ ∧
     stm9 18 = .FunctionDef _ ?a18 ?b18 _ _ _ ?s18 _ _ _ ∧
     stm9 19 = .FunctionDef _ ?a19 ?b19 _ _ _ ?s19 _ _ _ ∧
     stm9 20 = .FunctionDef _ ?a20 ?b20 _ _ _ ?s20 _ _ _ ∧
     stm9 23 = .ClassDef _ _ _ [.FunctionDef _ ?a23x0 ?b23x0 _ _ _ ?s23x0 _ _ _] _ _ _ _ _ _ _ ∧
     stm9 24 = .FunctionDef _ ?a24 ?b24 _ _ _ ?s24 _ _ _ ∧
     stm9 25 = .FunctionDef _ ?a25 ?b25 _ _ _ ?s25 _ _ _ ∧
     stm9 26 = .FunctionDef _ ?a26 ?b26 _ _ _ ?s26 _ _ _ ∧
     stm9 28 = .FunctionDef _ ?a28 ?b28 _ _ _ ?s28 _ _ _ ∧
     stm9 29 = .FunctionDef _ ?a29 ?b29 _ _ _ ?s29 _ _ _ ∧
     stm9 30 = .FunctionDef _ ?a30 ?b30 _ _ _ ?s30 _ _ _ ∧
     stm9 31 = .FunctionDef _ ?a31 ?b31 _ _ _ ?s31 _ _ _ ∧
     stm9 32 = .FunctionDef _ ?a32 ?b32 _ _ _ ?s32 _ _ _ ∧
     stm9 33 = .FunctionDef _ ?a33 ?b33 _ _ _ ?s33 _ _ _ ∧
     stm9 36 = .ClassDef _ _ _ [.FunctionDef _ ?a36x0 ?b36x0 _ _ _ ?s36x0 _ _ _] _ _ _ _ _ _ _ ∧
     stm9 37 = .FunctionDef _ ?a37 ?b37 _ _ _ ?s37 _ _ _ ∧
     stm9 38 = .FunctionDef _ ?a38 ?b38 _ _ _ ?s38 _ _ _ ∧
     stm9 39 = .FunctionDef _ ?a39 ?b39 _ _ _ ?s39 _ _ _ ∧
     stm9 40 = .FunctionDef _ ?a40 ?b40 _ _ _ ?s40 _ _ _ ∧
     stm9 41 = .FunctionDef _ ?a41 ?b41 _ _ _ ?s41 _ _ _ ∧
     stm9 42 = .FunctionDef _ ?a42 ?b42 _ _ _ ?s42 _ _ _ ∧
     stm9 43 = .FunctionDef _ ?a43 ?b43 _ _ _ ?s43 _ _ _ ∧
     stm9 44 = .FunctionDef _ ?a44 ?b44 _ _ _ ?s44 _ _ _ ∧
     stm9 59 = .FunctionDef _ ?a59 ?b59 _ _ _ ?s59 _ _ _ ∧
     stm9 60 = .FunctionDef _ ?a60 ?b60 _ _ _ ?s60 _ _ _ ∧
     stm9 68 = .FunctionDef _ ?a68 ?b68 _ _ _ ?s68 _ _ _ ∧
     stm9 73 = .ClassDef _ _ _ [.FunctionDef _ ?a73x0 ?b73x0 _ _ _ ?s73x0 _ _ _] _ _ _ _ _ _ _ ∧
     stm9 76 = .FunctionDef _ ?a76 ?b76 _ _ _ ?s76 _ _ _ ∧
     stm9 77 = .FunctionDef _ ?a77 ?b77 _ _ _ ?s77 _ _ _ ∧
     stm9 81 = .FunctionDef _ ?a81 ?b81 _ _ _ ?s81 _ _ _ ∧
     stm9 82 = .FunctionDef _ ?a82 ?b82 _ _ _ ?s82 _ _ _ ∧
     stm9 85 = .FunctionDef _ ?a85 ?b85 _ _ _ ?s85 _ _ _ ∧
     stm9 93 = .FunctionDef _ ?a93 ?b93 _ _ _ ?s93 _ _ _ ∧
     stm9 94 = .FunctionDef _ ?a94 ?b94 _ _ _ ?s94 _ _ _ ∧
     stm9 95 = .FunctionDef _ ?a95 ?b95 _ _ _ ?s95 _ _ _ ∧
     stm9 96 = .FunctionDef _ ?a96 ?b96 _ _ _ ?s96 _ _ _ ∧
     stm9 100 = .ClassDef _ _ _ [.FunctionDef _ ?a100x0 ?b100x0 _ _ _ ?s100x0 _ _ _, .FunctionDef _ ?a100x1 ?b100x1 _ _ _ ?s100x1 _ _ _, .FunctionDef _ ?a100x2 ?b100x2 _ _ _ ?s100x2 _ _ _, .FunctionDef _ ?a100x3 ?b100x3 _ _ _ ?s100x3 _ _ _, .FunctionDef _ ?a100x4 ?b100x4 _ _ _ ?s100x4 _ _ _, .FunctionDef _ ?a100x5 ?b100x5 _ _ _ ?s100x5 _ _ _, .FunctionDef _ ?a100x6 ?b100x6 _ _ _ ?s100x6 _ _ _, .FunctionDef _ ?a100x7 ?b100x7 _ _ _ ?s100x7 _ _ _, .FunctionDef _ ?a100x8 ?b100x8 _ _ _ ?s100x8 _ _ _, .FunctionDef _ ?a100x9 ?b100x9 _ _ _ ?s100x9 _ _ _, .FunctionDef _ ?a100x10 ?b100x10 _ _ _ ?s100x10 _ _ _, .FunctionDef _ ?a100x11 ?b100x11 _ _ _ ?s100x11 _ _ _, .FunctionDef _ ?a100x12 ?b100x12 _ _ _ ?s100x12 _ _ _, .FunctionDef _ ?a100x13 ?b100x13 _ _ _ ?s100x13 _ _ _, .FunctionDef _ ?a100x14 ?b100x14 _ _ _ ?s100x14 _ _ _] _ _ _ _ _ _ _ ∧
     stm9 102 = .FunctionDef _ ?a102 ?b102 _ _ _ ?s102 _ _ _ ∧
     stm9 103 = .FunctionDef _ ?a103 ?b103 _ _ _ ?s103 _ _ _ ∧
     stm9 104 = .FunctionDef _ ?a104 ?b104 _ _ _ ?s104 _ _ _ ∧
     stm9 105 = .FunctionDef _ ?a105 ?b105 _ _ _ ?s105 _ _ _ ∧
     stm9 106 = .FunctionDef _ ?a106 ?b106 _ _ _ ?s106 _ _ _ ∧
     stm9 107 = .FunctionDef _ ?a107 ?b107 _ _ _ ?s107 _ _ _ ∧
     stm9 108 = .FunctionDef _ ?a108 ?b108 _ _ _ ?s108 _ _ _ ∧
     stm9 109 = .FunctionDef _ ?a109 ?b109 _ _ _ ?s109 _ _ _ ∧
     stm9 110 = .FunctionDef _ ?a110 ?b110 _ _ _ ?s110 _ _ _ ∧
     stm9 111 = .FunctionDef _ ?a111 ?b111 _ _ _ ?s111 _ _ _) ?h
    ((nat_lit 0, ⟨(.type "dict"), none, .dict (List.toArray (⟨PyData.keyHash P (Str.ofString "__name__"), (.str (Str.ofString "__name__") 1), (.str (Str.ofString "builtins") 160)⟩ :: ⟨PyData.keyHash P (Str.ofString "__doc__"), (.str (Str.ofString "__doc__") 2), (.builtin "builtins.__doc__:str#opaque")⟩ :: ⟨PyData.keyHash P (Str.ofString "__package__"), (.str (Str.ofString "__package__") 3), (.builtin "builtins.__package__:str#opaque")⟩ :: ⟨PyData.keyHash P (Str.ofString "__loader__"), (.str (Str.ofString "__loader__") 4), (.builtin "builtins.__loader__:shared#opaque")⟩ :: ⟨PyData.keyHash P (Str.ofString "__spec__"), (.str (Str.ofString "__spec__") 5), (.builtin "builtins.__spec__#opaque")⟩ :: ⟨PyData.keyHash P (Str.ofString "__build_class__"), (.str (Str.ofString "__build_class__") 6), (.builtin "__build_class__")⟩ :: ⟨PyData.keyHash P (Str.ofString "__import__"), (.str (Str.ofString "__import__") 7), (.builtin "__import__")⟩ :: ⟨PyData.keyHash P (Str.ofString "abs"), (.str (Str.ofString "abs") 8), (.builtin "abs")⟩ :: ⟨PyData.keyHash P (Str.ofString "all"), (.str (Str.ofString "all") 9), (.builtin "all")⟩ :: ⟨PyData.keyHash P (Str.ofString "any"), (.str (Str.ofString "any") 10), (.builtin "any")⟩ :: ⟨PyData.keyHash P (Str.ofString "ascii"), (.str (Str.ofString "ascii") 11), (.builtin "ascii")⟩ :: ⟨PyData.keyHash P (Str.ofString "bin"), (.str (Str.ofString "bin") 12), (.builtin "bin")⟩ :: ⟨PyData.keyHash P (Str.ofString "breakpoint"), (.str (Str.ofString "breakpoint") 13), (.builtin "breakpoint")⟩ :: ⟨PyData.keyHash P (Str.ofString "callable"), (.str (Str.ofString "callable") 14), (.builtin "callable")⟩ :: ⟨PyData.keyHash P (Str.ofString "chr"), (.str (Str.ofString "chr") 15), (.builtin "chr")⟩ :: ⟨PyData.keyHash P (Str.ofString "compile"), (.str (Str.ofString "compile") 16), (.builtin "compile")⟩ :: ⟨PyData.keyHash P (Str.ofString "delattr"), (.str (Str.ofString "delattr") 17), (.builtin "delattr")⟩ :: ⟨PyData.keyHash P (Str.ofString "dir"), (.str (Str.ofString "dir") 18), (.builtin "dir")⟩ :: ⟨PyData.keyHash P (Str.ofString "divmod"), (.str (Str.ofString "divmod") 19), (.builtin "divmod")⟩ :: ⟨PyData.keyHash P (Str.ofString "eval"), (.str (Str.ofString "eval") 20), (.builtin "eval")⟩ :: ⟨PyData.keyHash P (Str.ofString "exec"), (.str (Str.ofString "exec") 21), (.builtin "exec")⟩ :: ⟨PyData.keyHash P (Str.ofString "format"), (.str (Str.ofString "format") 22), (.builtin "format")⟩ :: ⟨PyData.keyHash P (Str.ofString "getattr"), (.str (Str.ofString "getattr") 23), (.builtin "getattr")⟩ :: ⟨PyData.keyHash P (Str.ofString "globals"), (.str (Str.ofString "globals") 24), (.builtin "globals")⟩ :: ⟨PyData.keyHash P (Str.ofString "hasattr"), (.str (Str.ofString "hasattr") 25), (.builtin "hasattr")⟩ :: ⟨PyData.keyHash P (Str.ofString "hash"), (.str (Str.ofString "hash") 26), (.builtin "hash")⟩ :: ⟨PyData.keyHash P (Str.ofString "hex"), (.str (Str.ofString "hex") 27), (.builtin "hex")⟩ :: ⟨PyData.keyHash P (Str.ofString "id"), (.str (Str.ofString "id") 28), (.builtin "id")⟩ :: ⟨PyData.keyHash P (Str.ofString "input"), (.str (Str.ofString "input") 29), (.builtin "input")⟩ :: ⟨PyData.keyHash P (Str.ofString "isinstance"), (.str (Str.ofString "isinstance") 30), (.builtin "isinstance")⟩ :: ⟨PyData.keyHash P (Str.ofString "issubclass"), (.str (Str.ofString "issubclass") 31), (.builtin "issubclass")⟩ :: ⟨PyData.keyHash P (Str.ofString "iter"), (.str (Str.ofString "iter") 32), (.builtin "iter")⟩ :: ⟨PyData.keyHash P (Str.ofString "aiter"), (.str (Str.ofString "aiter") 33), (.builtin "aiter")⟩ :: ⟨PyData.keyHash P (Str.ofString "len"), (.str (Str.ofString "len") 34), (.builtin "len")⟩ :: ⟨PyData.keyHash P (Str.ofString "locals"), (.str (Str.ofString "locals") 35), (.builtin "locals")⟩ :: ⟨PyData.keyHash P (Str.ofString "max"), (.str (Str.ofString "max") 36), (.builtin "max")⟩ :: ⟨PyData.keyHash P (Str.ofString "min"), (.str (Str.ofString "min") 37), (.builtin "min")⟩ :: ⟨PyData.keyHash P (Str.ofString "next"), (.str (Str.ofString "next") 38), (.builtin "next")⟩ :: ⟨PyData.keyHash P (Str.ofString "anext"), (.str (Str.ofString "anext") 39), (.builtin "anext")⟩ :: ⟨PyData.keyHash P (Str.ofString "oct"), (.str (Str.ofString "oct") 40), (.builtin "oct")⟩ :: ⟨PyData.keyHash P (Str.ofString "ord"), (.str (Str.ofString "ord") 41), (.builtin "ord")⟩ :: ⟨PyData.keyHash P (Str.ofString "pow"), (.str (Str.ofString "pow") 42), (.builtin "pow")⟩ :: ⟨PyData.keyHash P (Str.ofString "print"), (.str (Str.ofString "print") 43), (.builtin "print")⟩ :: ⟨PyData.keyHash P (Str.ofString "repr"), (.str (Str.ofString "repr") 44), (.builtin "repr")⟩ :: ⟨PyData.keyHash P (Str.ofString "round"), (.str (Str.ofString "round") 45), (.builtin "round")⟩ :: ⟨PyData.keyHash P (Str.ofString "setattr"), (.str (Str.ofString "setattr") 46), (.builtin "setattr")⟩ :: ⟨PyData.keyHash P (Str.ofString "sorted"), (.str (Str.ofString "sorted") 47), (.builtin "sorted")⟩ :: ⟨PyData.keyHash P (Str.ofString "sum"), (.str (Str.ofString "sum") 48), (.builtin "sum")⟩ :: ⟨PyData.keyHash P (Str.ofString "vars"), (.str (Str.ofString "vars") 49), (.builtin "vars")⟩ :: ⟨PyData.keyHash P (Str.ofString "None"), (.str (Str.ofString "None") 50), .none⟩ :: ⟨PyData.keyHash P (Str.ofString "Ellipsis"), (.str (Str.ofString "Ellipsis") 51), .ellipsis⟩ :: ⟨PyData.keyHash P (Str.ofString "NotImplemented"), (.str (Str.ofString "NotImplemented") 52), .notImplemented⟩ :: ⟨PyData.keyHash P (Str.ofString "False"), (.str (Str.ofString "False") 53), (.bool false)⟩ :: ⟨PyData.keyHash P (Str.ofString "True"), (.str (Str.ofString "True") 54), (.bool true)⟩ :: ⟨PyData.keyHash P (Str.ofString "bool"), (.str (Str.ofString "bool") 55), (.type "bool")⟩ :: ⟨PyData.keyHash P (Str.ofString "memoryview"), (.str (Str.ofString "memoryview") 56), (.type "memoryview")⟩ :: ⟨PyData.keyHash P (Str.ofString "bytearray"), (.str (Str.ofString "bytearray") 57), (.type "bytearray")⟩ :: ⟨PyData.keyHash P (Str.ofString "bytes"), (.str (Str.ofString "bytes") 58), (.type "bytes")⟩ :: ⟨PyData.keyHash P (Str.ofString "classmethod"), (.str (Str.ofString "classmethod") 59), (.type "classmethod")⟩ :: ⟨PyData.keyHash P (Str.ofString "complex"), (.str (Str.ofString "complex") 60), (.type "complex")⟩ :: ⟨PyData.keyHash P (Str.ofString "dict"), (.str (Str.ofString "dict") 61), (.type "dict")⟩ :: ⟨PyData.keyHash P (Str.ofString "enumerate"), (.str (Str.ofString "enumerate") 62), (.type "enumerate")⟩ :: ⟨PyData.keyHash P (Str.ofString "filter"), (.str (Str.ofString "filter") 63), (.type "filter")⟩ :: ⟨PyData.keyHash P (Str.ofString "float"), (.str (Str.ofString "float") 64), (.type "float")⟩ :: ⟨PyData.keyHash P (Str.ofString "frozenset"), (.str (Str.ofString "frozenset") 65), (.type "frozenset")⟩ :: ⟨PyData.keyHash P (Str.ofString "property"), (.str (Str.ofString "property") 66), (.type "property")⟩ :: ⟨PyData.keyHash P (Str.ofString "int"), (.str (Str.ofString "int") 67), (.type "int")⟩ :: ⟨PyData.keyHash P (Str.ofString "list"), (.str (Str.ofString "list") 68), (.type "list")⟩ :: ⟨PyData.keyHash P (Str.ofString "map"), (.str (Str.ofString "map") 69), (.type "map")⟩ :: ⟨PyData.keyHash P (Str.ofString "object"), (.str (Str.ofString "object") 70), (.type "object")⟩ :: ⟨PyData.keyHash P (Str.ofString "range"), (.str (Str.ofString "range") 71), (.type "range")⟩ :: ⟨PyData.keyHash P (Str.ofString "reversed"), (.str (Str.ofString "reversed") 72), (.type "reversed")⟩ :: ⟨PyData.keyHash P (Str.ofString "set"), (.str (Str.ofString "set") 73), (.type "set")⟩ :: ⟨PyData.keyHash P (Str.ofString "slice"), (.str (Str.ofString "slice") 74), (.type "slice")⟩ :: ⟨PyData.keyHash P (Str.ofString "staticmethod"), (.str (Str.ofString "staticmethod") 75), (.type "staticmethod")⟩ :: ⟨PyData.keyHash P (Str.ofString "str"), (.str (Str.ofString "str") 76), (.type "str")⟩ :: ⟨PyData.keyHash P (Str.ofString "super"), (.str (Str.ofString "super") 77), (.type "super")⟩ :: ⟨PyData.keyHash P (Str.ofString "tuple"), (.str (Str.ofString "tuple") 78), (.type "tuple")⟩ :: ⟨PyData.keyHash P (Str.ofString "type"), (.str (Str.ofString "type") 79), (.type "type")⟩ :: ⟨PyData.keyHash P (Str.ofString "zip"), (.str (Str.ofString "zip") 80), (.type "zip")⟩ :: ⟨PyData.keyHash P (Str.ofString "__debug__"), (.str (Str.ofString "__debug__") 81), (.bool true)⟩ :: ⟨PyData.keyHash P (Str.ofString "BaseException"), (.str (Str.ofString "BaseException") 82), (.type "BaseException")⟩ :: ⟨PyData.keyHash P (Str.ofString "BaseExceptionGroup"), (.str (Str.ofString "BaseExceptionGroup") 83), (.type "BaseExceptionGroup")⟩ :: ⟨PyData.keyHash P (Str.ofString "Exception"), (.str (Str.ofString "Exception") 84), (.type "Exception")⟩ :: ⟨PyData.keyHash P (Str.ofString "GeneratorExit"), (.str (Str.ofString "GeneratorExit") 85), (.type "GeneratorExit")⟩ :: ⟨PyData.keyHash P (Str.ofString "KeyboardInterrupt"), (.str (Str.ofString "KeyboardInterrupt") 86), (.type "KeyboardInterrupt")⟩ :: ⟨PyData.keyHash P (Str.ofString "SystemExit"), (.str (Str.ofString "SystemExit") 87), (.type "SystemExit")⟩ :: ⟨PyData.keyHash P (Str.ofString "ArithmeticError"), (.str (Str.ofString "ArithmeticError") 88), (.type "ArithmeticError")⟩ :: ⟨PyData.keyHash P (Str.ofString "AssertionError"), (.str (Str.ofString "AssertionError") 89), (.type "AssertionError")⟩ :: ⟨PyData.keyHash P (Str.ofString "AttributeError"), (.str (Str.ofString "AttributeError") 90), (.type "AttributeError")⟩ :: ⟨PyData.keyHash P (Str.ofString "BufferError"), (.str (Str.ofString "BufferError") 91), (.type "BufferError")⟩ :: ⟨PyData.keyHash P (Str.ofString "EOFError"), (.str (Str.ofString "EOFError") 92), (.type "EOFError")⟩ :: ⟨PyData.keyHash P (Str.ofString "ImportError"), (.str (Str.ofString "ImportError") 93), (.type "ImportError")⟩ :: ⟨PyData.keyHash P (Str.ofString "LookupError"), (.str (Str.ofString "LookupError") 94), (.type "LookupError")⟩ :: ⟨PyData.keyHash P (Str.ofString "MemoryError"), (.str (Str.ofString "MemoryError") 95), (.type "MemoryError")⟩ :: ⟨PyData.keyHash P (Str.ofString "NameError"), (.str (Str.ofString "NameError") 96), (.type "NameError")⟩ :: ⟨PyData.keyHash P (Str.ofString "OSError"), (.str (Str.ofString "OSError") 97), (.type "OSError")⟩ :: ⟨PyData.keyHash P (Str.ofString "ReferenceError"), (.str (Str.ofString "ReferenceError") 98), (.type "ReferenceError")⟩ :: ⟨PyData.keyHash P (Str.ofString "RuntimeError"), (.str (Str.ofString "RuntimeError") 99), (.type "RuntimeError")⟩ :: ⟨PyData.keyHash P (Str.ofString "StopAsyncIteration"), (.str (Str.ofString "StopAsyncIteration") 100), (.type "StopAsyncIteration")⟩ :: ⟨PyData.keyHash P (Str.ofString "StopIteration"), (.str (Str.ofString "StopIteration") 101), (.type "StopIteration")⟩ :: ⟨PyData.keyHash P (Str.ofString "SyntaxError"), (.str (Str.ofString "SyntaxError") 102), (.type "SyntaxError")⟩ :: ⟨PyData.keyHash P (Str.ofString "SystemError"), (.str (Str.ofString "SystemError") 103), (.type "SystemError")⟩ :: ⟨PyData.keyHash P (Str.ofString "TypeError"), (.str (Str.ofString "TypeError") 104), (.type "TypeError")⟩ :: ⟨PyData.keyHash P (Str.ofString "ValueError"), (.str (Str.ofString "ValueError") 105), (.type "ValueError")⟩ :: ⟨PyData.keyHash P (Str.ofString "Warning"), (.str (Str.ofString "Warning") 106), (.type "Warning")⟩ :: ⟨PyData.keyHash P (Str.ofString "FloatingPointError"), (.str (Str.ofString "FloatingPointError") 107), (.type "FloatingPointError")⟩ :: ⟨PyData.keyHash P (Str.ofString "OverflowError"), (.str (Str.ofString "OverflowError") 108), (.type "OverflowError")⟩ :: ⟨PyData.keyHash P (Str.ofString "ZeroDivisionError"), (.str (Str.ofString "ZeroDivisionError") 109), (.type "ZeroDivisionError")⟩ :: ⟨PyData.keyHash P (Str.ofString "BytesWarning"), (.str (Str.ofString "BytesWarning") 110), (.type "BytesWarning")⟩ :: ⟨PyData.keyHash P (Str.ofString "DeprecationWarning"), (.str (Str.ofString "DeprecationWarning") 111), (.type "DeprecationWarning")⟩ :: ⟨PyData.keyHash P (Str.ofString "EncodingWarning"), (.str (Str.ofString "EncodingWarning") 112), (.type "EncodingWarning")⟩ :: ⟨PyData.keyHash P (Str.ofString "FutureWarning"), (.str (Str.ofString "FutureWarning") 113), (.type "FutureWarning")⟩ :: ⟨PyData.keyHash P (Str.ofString "ImportWarning"), (.str (Str.ofString "ImportWarning") 114), (.type "ImportWarning")⟩ :: ⟨PyData.keyHash P (Str.ofString "PendingDeprecationWarning"), (.str (Str.ofString "PendingDeprecationWarning") 115), (.type "PendingDeprecationWarning")⟩ :: ⟨PyData.keyHash P (Str.ofString "ResourceWarning"), (.str (Str.ofString "ResourceWarning") 116), (.type "ResourceWarning")⟩ :: ⟨PyData.keyHash P (Str.ofString "RuntimeWarning"), (.str (Str.ofString "RuntimeWarning") 117), (.type "RuntimeWarning")⟩ :: ⟨PyData.keyHash P (Str.ofString "SyntaxWarning"), (.str (Str.ofString "SyntaxWarning") 118), (.type "SyntaxWarning")⟩ :: ⟨PyData.keyHash P (Str.ofString "UnicodeWarning"), (.str (Str.ofString "UnicodeWarning") 119), (.type "UnicodeWarning")⟩ :: ⟨PyData.keyHash P (Str.ofString "UserWarning"), (.str (Str.ofString "UserWarning") 120), (.type "UserWarning")⟩ :: ⟨PyData.keyHash P (Str.ofString "BlockingIOError"), (.str (Str.ofString "BlockingIOError") 121), (.type "BlockingIOError")⟩ :: ⟨PyData.keyHash P (Str.ofString "ChildProcessError"), (.str (Str.ofString "ChildProcessError") 122), (.type "ChildProcessError")⟩ :: ⟨PyData.keyHash P (Str.ofString "ConnectionError"), (.str (Str.ofString "ConnectionError") 123), (.type "ConnectionError")⟩ :: ⟨PyData.keyHash P (Str.ofString "FileExistsError"), (.str (Str.ofString "FileExistsError") 124), (.type "FileExistsError")⟩ :: ⟨PyData.keyHash P (Str.ofString "FileNotFoundError"), (.str (Str.ofString "FileNotFoundError") 125), (.type "FileNotFoundError")⟩ :: ⟨PyData.keyHash P (Str.ofString "InterruptedError"), (.str (Str.ofString "InterruptedError") 126), (.type "InterruptedError")⟩ :: ⟨PyData.keyHash P (Str.ofString "IsADirectoryError"), (.str (Str.ofString "IsADirectoryError") 127), (.type "IsADirectoryError")⟩ :: ⟨PyData.keyHash P (Str.ofString "NotADirectoryError"), (.str (Str.ofString "NotADirectoryError") 128), (.type "NotADirectoryError")⟩ :: ⟨PyData.keyHash P (Str.ofString "PermissionError"), (.str (Str.ofString "PermissionError") 129), (.type "PermissionError")⟩ :: ⟨PyData.keyHash P (Str.ofString "ProcessLookupError"), (.str (Str.ofString "ProcessLookupError") 130), (.type "ProcessLookupError")⟩ :: ⟨PyData.keyHash P (Str.ofString "TimeoutError"), (.str (Str.ofString "TimeoutError") 131), (.type "TimeoutError")⟩ :: ⟨PyData.keyHash P (Str.ofString "IndentationError"), (.str (Str.ofString "IndentationError") 132), (.type "IndentationError")⟩ :: ⟨PyData.keyHash P (Str.ofString "_IncompleteInputError"), (.str (Str.ofString "_IncompleteInputError") 133), (.type "_IncompleteInputError")⟩ :: ⟨PyData.keyHash P (Str.ofString "IndexError"), (.str (Str.ofString "IndexError") 134), (.type "IndexError")⟩ :: ⟨PyData.keyHash P (Str.ofString "KeyError"), (.str (Str.ofString "KeyError") 135), (.type "KeyError")⟩ :: ⟨PyData.keyHash P (Str.ofString "ModuleNotFoundError"), (.str (Str.ofString "ModuleNotFoundError") 136), (.type "ModuleNotFoundError")⟩ :: ⟨PyData.keyHash P (Str.ofString "NotImplementedError"), (.str (Str.ofString "NotImplementedError") 137), (.type "NotImplementedError")⟩ :: ⟨PyData.keyHash P (Str.ofString "PythonFinalizationError"), (.str (Str.ofString "PythonFinalizationError") 138), (.type "PythonFinalizationError")⟩ :: ⟨PyData.keyHash P (Str.ofString "RecursionError"), (.str (Str.ofString "RecursionError") 139), (.type "RecursionError")⟩ :: ⟨PyData.keyHash P (Str.ofString "UnboundLocalError"), (.str (Str.ofString "UnboundLocalError") 140), (.type "UnboundLocalError")⟩ :: ⟨PyData.keyHash P (Str.ofString "UnicodeError"), (.str (Str.ofString "UnicodeError") 141), (.type "UnicodeError")⟩ :: ⟨PyData.keyHash P (Str.ofString "BrokenPipeError"), (.str (Str.ofString "BrokenPipeError") 142), (.type "BrokenPipeError")⟩ :: ⟨PyData.keyHash P (Str.ofString "ConnectionAbortedError"), (.str (Str.ofString "ConnectionAbortedError") 143), (.type "ConnectionAbortedError")⟩ :: ⟨PyData.keyHash P (Str.ofString "ConnectionRefusedError"), (.str (Str.ofString "ConnectionRefusedError") 144), (.type "ConnectionRefusedError")⟩ :: ⟨PyData.keyHash P (Str.ofString "ConnectionResetError"), (.str (Str.ofString "ConnectionResetError") 145), (.type "ConnectionResetError")⟩ :: ⟨PyData.keyHash P (Str.ofString "TabError"), (.str (Str.ofString "TabError") 146), (.type "TabError")⟩ :: ⟨PyData.keyHash P (Str.ofString "UnicodeDecodeError"), (.str (Str.ofString "UnicodeDecodeError") 147), (.type "UnicodeDecodeError")⟩ :: ⟨PyData.keyHash P (Str.ofString "UnicodeEncodeError"), (.str (Str.ofString "UnicodeEncodeError") 148), (.type "UnicodeEncodeError")⟩ :: ⟨PyData.keyHash P (Str.ofString "UnicodeTranslateError"), (.str (Str.ofString "UnicodeTranslateError") 149), (.type "UnicodeTranslateError")⟩ :: ⟨PyData.keyHash P (Str.ofString "ExceptionGroup"), (.str (Str.ofString "ExceptionGroup") 150), (.type "ExceptionGroup")⟩ :: ⟨PyData.keyHash P (Str.ofString "EnvironmentError"), (.str (Str.ofString "EnvironmentError") 151), (.type "OSError")⟩ :: ⟨PyData.keyHash P (Str.ofString "IOError"), (.str (Str.ofString "IOError") 152), (.type "OSError")⟩ :: ⟨PyData.keyHash P (Str.ofString "open"), (.str (Str.ofString "open") 153), (.builtin "open")⟩ :: ⟨PyData.keyHash P (Str.ofString "quit"), (.str (Str.ofString "quit") 154), (.builtin "builtins.quit#opaque")⟩ :: ⟨PyData.keyHash P (Str.ofString "exit"), (.str (Str.ofString "exit") 155), (.builtin "builtins.exit#opaque")⟩ :: ⟨PyData.keyHash P (Str.ofString "copyright"), (.str (Str.ofString "copyright") 156), (.builtin "builtins.copyright#opaque")⟩ :: ⟨PyData.keyHash P (Str.ofString "credits"), (.str (Str.ofString "credits") 157), (.builtin "builtins.credits#opaque")⟩ :: ⟨PyData.keyHash P (Str.ofString "license"), (.str (Str.ofString "license") 158), (.builtin "builtins.license#opaque")⟩ :: ⟨PyData.keyHash P (Str.ofString "help"), (.str (Str.ofString "help") 159), (.builtin "builtins.help#opaque")⟩ :: [])) 159, #[]⟩) ::
     (nat_lit 1, ⟨(.type "dict"), none, .dict (List.toArray (⟨PyData.keyHash P (Str.ofString "builtins"), (.str (Str.ofString "builtins") 162), (.ref 4)⟩ :: ⟨PyData.keyHash P (Str.ofString "__main__"), (.str (Str.ofString "__main__") 163), (.ref 5)⟩ :: [])) 2, #[]⟩) ::
     (nat_lit 2, ⟨.none, none, .dict (List.toArray (⟨PyData.keyHash P (Str.ofString "type.__subclasses__.Exception.0"), (.str (Str.ofString "type.__subclasses__.Exception.0") 230), (.int (41) 0)⟩ :: ⟨PyData.keyHash P (Str.ofString "type.__subclasses__.Exception.n"), (.str (Str.ofString "type.__subclasses__.Exception.n") 231), (.int (1) 0)⟩ :: [])) 2, #[]⟩) ::
     (nat_lit 3, ⟨(.type "dict"), none, .dict (List.toArray (⟨PyData.keyHash P (Str.ofString "__name__"), (.str (Str.ofString "__name__") 165), (.str (Str.ofString "law_pf0018_01") 1243)⟩ :: ⟨PyData.keyHash P (Str.ofString "__doc__"), (.str (Str.ofString "__doc__") 166), .none⟩ :: ⟨PyData.keyHash P (Str.ofString "__package__"), (.str (Str.ofString "__package__") 167), .none⟩ :: ⟨PyData.keyHash P (Str.ofString "__loader__"), (.str (Str.ofString "__loader__") 168), (.builtin "__main__.__loader__#opaque")⟩ :: ⟨PyData.keyHash P (Str.ofString "__spec__"), (.str (Str.ofString "__spec__") 169), .none⟩ :: ⟨PyData.keyHash P (Str.ofString "__annotations__"), (.str (Str.ofString "__annotations__") 170), (.ref 6)⟩ :: ⟨PyData.keyHash P (Str.ofString "__builtins__"), (.str (Str.ofString "__builtins__") 171), (.ref 4)⟩ :: ⟨PyData.keyHash P (Str.ofString "__file__"), (.str (Str.ofString "__file__") 173), (.str (Str.ofString "/claim/cut.py") 172)⟩ :: ⟨PyData.keyHash P (Str.ofString "__cached__"), (.str (Str.ofString "__cached__") 174), .none⟩ :: ⟨PyData.keyHash P (Str.ofString "_wall"), (.str (Str.ofString "_wall") 193), (.ref 21)⟩ :: ⟨PyData.keyHash P (Str.ofString "MOST_TEXT"), (.str (Str.ofString "MOST_TEXT") 197), (.int (255) 196)⟩ :: ⟨PyData.keyHash P (Str.ofString "MOST_EXPONENT"), (.str (Str.ofString "MOST_EXPONENT") 199), (.int (99) 198)⟩ :: ⟨PyData.keyHash P (Str.ofString "BasicError"), (.str (Str.ofString "BasicError") 233), (.ref 41)⟩ :: ⟨PyData.keyHash P (Str.ofString "error_codes"), (.str (Str.ofString "error_codes") 240), (.ref 51)⟩ :: ⟨PyData.keyHash P (Str.ofString "number_of_error"), (.str (Str.ofString "number_of_error") 250), (.ref 58)⟩ :: ⟨PyData.keyHash P (Str.ofString "code_of_error"), (.str (Str.ofString "code_of_error") 258), (.ref 65)⟩ :: ⟨PyData.keyHash P (Str.ofString "kind_of"), (.str (Str.ofString "kind_of") 265), (.ref 72)⟩ :: ⟨PyData.keyHash P (Str.ofString "kind_of_name"), (.str (Str.ofString "kind_of_name") 274), (.ref 79)⟩ :: ⟨PyData.keyHash P (Str.ofString "first_value"), (.str (Str.ofString "first_value") 281), (.ref 86)⟩ :: ⟨PyData.keyHash P (Str.ofString "figures_of"), (.str (Str.ofString "figures_of") 290), (.ref 93)⟩ :: ⟨PyData.keyHash P (Str.ofString "rounded_by"), (.str (Str.ofString "rounded_by") 301), (.ref 100)⟩ :: ⟨PyData.keyHash P (Str.ofString "made"), (.str (Str.ofString "made") 313), (.ref 107)⟩ :: ⟨PyData.keyHash P (Str.ofString "whole_near"), (.str (Str.ofString "whole_near") 323), (.ref 114)⟩ :: ⟨PyData.keyHash P (Str.ofString "fits"), (.str (Str.ofString "fits") 331), (.ref 121)⟩ :: ⟨PyData.keyHash P (Str.ofString "whole_of"), (.str (Str.ofString "whole_of") 340), (.ref 128)⟩ :: ⟨PyData.keyHash P (Str.ofString "decimal_of"), (.str (Str.ofString "decimal_of") 348), (.ref 135)⟩ :: ⟨PyData.keyHash P (Str.ofString "text_of"), (.str (Str.ofString "text_of") 355), (.ref 142)⟩ :: ⟨PyData.keyHash P (Str.ofString "checked_text"), (.str (Str.ofString "checked_text") 362), (.ref 149)⟩ :: ⟨PyData.keyHash P (Str.ofString "suited"), (.str (Str.ofString "suited") 372), (.ref 156)⟩ :: ⟨PyData.keyHash P (Str.ofString "truth"), (.str (Str.ofString "truth") 379), (.ref 163)⟩ :: ⟨PyData.keyHash P (Str.ofString "World"), (.str (Str.ofString "World") 446), (.ref 181)⟩ :: ⟨PyData.keyHash P (Str.ofString "kind_here"), (.str (Str.ofString "kind_here") 454), (.ref 192)⟩ :: ⟨PyData.keyHash P (Str.ofString "get_name"), (.str (Str.ofString "get_name") 462), (.ref 199)⟩ :: ⟨PyData.keyHash P (Str.ofString "set_name"), (.str (Str.ofString "set_name") 471), (.ref 206)⟩ :: ⟨PyData.keyHash P (Str.ofString "kind_of_target"), (.str (Str.ofString "kind_of_target") 481), (.ref 213)⟩ :: ⟨PyData.keyHash P (Str.ofString "place_told"), (.str (Str.ofString "place_told") 487), (.ref 218)⟩ :: ⟨PyData.keyHash P (Str.ofString "value_at"), (.str (Str.ofString "value_at") 495), (.ref 225)⟩ :: ⟨PyData.keyHash P (Str.ofString "put_at"), (.str (Str.ofString "put_at") 504), (.ref 232)⟩ :: ⟨PyData.keyHash P (Str.ofString "do_swap"), (.str (Str.ofString "do_swap") 516), (.ref 239)⟩ :: ⟨PyData.keyHash P (Str.ofString "do_mid"), (.str (Str.ofString "do_mid") 535), (.ref 246)⟩ :: ⟨PyData.keyHash P (Str.ofString "USUAL_HIGH"), (.str (Str.ofString "USUAL_HIGH") 539), (.int (10) 538)⟩ :: ⟨PyData.keyHash P (Str.ofString "Grid"), (.str (Str.ofString "Grid") 574), (.ref 263)⟩ :: ⟨PyData.keyHash P (Str.ofString "count_of"), (.str (Str.ofString "count_of") 584), (.ref 274)⟩ :: ⟨PyData.keyHash P (Str.ofString "kind_in"), (.str (Str.ofString "kind_in") 592), (.ref 281)⟩ :: ⟨PyData.keyHash P (Str.ofString "check_highs"), (.str (Str.ofString "check_highs") 601), (.ref 288)⟩ :: ⟨PyData.keyHash P (Str.ofString "dim"), (.str (Str.ofString "dim") 610), (.ref 295)⟩ :: ⟨PyData.keyHash P (Str.ofString "grid_of"), (.str (Str.ofString "grid_of") 619), (.ref 302)⟩ :: ⟨PyData.keyHash P (Str.ofString "place_of"), (.str (Str.ofString "place_of") 630), (.ref 309)⟩ :: ⟨PyData.keyHash P (Str.ofString "get_item"), (.str (Str.ofString "get_item") 640), (.ref 316)⟩ :: ⟨PyData.keyHash P (Str.ofString "set_item"), (.str (Str.ofString "set_item") 652), (.ref 323)⟩ :: ⟨PyData.keyHash P (Str.ofString "ONE"), (.str (Str.ofString "ONE") 657), (.ref 324)⟩ :: ⟨PyData.keyHash P (Str.ofString "MOST_POWER"), (.str (Str.ofString "MOST_POWER") 659), (.int (9999) 658)⟩ :: ⟨PyData.keyHash P (Str.ofString "d_negated"), (.str (Str.ofString "d_negated") 666), (.ref 331)⟩ :: ⟨PyData.keyHash P (Str.ofString "alike"), (.str (Str.ofString "alike") 675), (.ref 338)⟩ :: ⟨PyData.keyHash P (Str.ofString "d_add"), (.str (Str.ofString "d_add") 687), (.ref 345)⟩ :: ⟨PyData.keyHash P (Str.ofString "d_sub"), (.str (Str.ofString "d_sub") 696), (.ref 352)⟩ :: ⟨PyData.keyHash P (Str.ofString "d_mul"), (.str (Str.ofString "d_mul") 705), (.ref 359)⟩ :: ⟨PyData.keyHash P (Str.ofString "with_rest"), (.str (Str.ofString "with_rest") 714), (.ref 366)⟩ :: ⟨PyData.keyHash P (Str.ofString "d_div"), (.str (Str.ofString "d_div") 728), (.ref 373)⟩ :: ⟨PyData.keyHash P (Str.ofString "d_compare"), (.str (Str.ofString "d_compare") 739), (.ref 380)⟩ :: ⟨PyData.keyHash P (Str.ofString "d_power"), (.str (Str.ofString "d_power") 751), (.ref 387)⟩ :: ⟨PyData.keyHash P (Str.ofString "square_or_end"), (.str (Str.ofString "square_or_end") 759), (.ref 394)⟩ :: ⟨PyData.keyHash P (Str.ofString "is_whole"), (.str (Str.ofString "is_whole") 768), (.ref 401)⟩ :: ⟨PyData.keyHash P (Str.ofString "settled"), (.str (Str.ofString "settled") 777), (.ref 408)⟩ :: ⟨PyData.keyHash P (Str.ofString "whole_reckoned"), (.str (Str.ofString "whole_reckoned") 788), (.ref 415)⟩ :: ⟨PyData.keyHash P (Str.ofString "cut_quotient"), (.str (Str.ofString "cut_quotient") 797), (.ref 422)⟩ :: ⟨PyData.keyHash P (Str.ofString "cut_rest"), (.str (Str.ofString "cut_rest") 805), (.ref 429)⟩ :: ⟨PyData.keyHash P (Str.ofString "exponent_of"), (.str (Str.ofString "exponent_of") 812), (.ref 436)⟩ :: ⟨PyData.keyHash P (Str.ofString "whole_power"), (.str (Str.ofString "whole_power") 822), (.ref 443)⟩ :: ⟨PyData.keyHash P (Str.ofString "raised"), (.str (Str.ofString "raised") 833), (.ref 450)⟩ :: ⟨PyData.keyHash P (Str.ofString "reckoned"), (.str (Str.ofString "reckoned") 849), (.ref 457)⟩ :: ⟨PyData.keyHash P (Str.ofString "negated"), (.str (Str.ofString "negated") 858), (.ref 464)⟩ :: ⟨PyData.keyHash P (Str.ofString "order_of"), (.str (Str.ofString "order_of") 866), (.ref 471)⟩ :: ⟨PyData.keyHash P (Str.ofString "inverted"), (.str (Str.ofString "inverted") 874), (.ref 478)⟩ :: ⟨PyData.keyHash P (Str.ofString "logic"), (.str (Str.ofString "logic") 886), (.ref 485)⟩ :: ⟨PyData.keyHash P (Str.ofString "Control"), (.str (Str.ofString "Control") 919), (.ref 502)⟩ :: ⟨PyData.keyHash P (Str.ofString "error_number"), (.str (Str.ofString "error_number") 926), (.ref 513)⟩ :: ⟨PyData.keyHash P (Str.ofString "field_text"), (.str (Str.ofString "field_text") 939), (.ref 520)⟩ :: ⟨PyData.keyHash P (Str.ofString "no_field"), (.str (Str.ofString "no_field") 947), (.ref 527)⟩ :: ⟨PyData.keyHash P (Str.ofString "hide_fields"), (.str (Str.ofString "hide_fields") 957), (.ref 534)⟩ :: ⟨PyData.keyHash P (Str.ofString "lay_fields"), (.str (Str.ofString "lay_fields") 967), (.ref 541)⟩ :: ⟨PyData.keyHash P (Str.ofString "variable_value"), (.str (Str.ofString "variable_value") 978), (.ref 548)⟩ :: ⟨PyData.keyHash P (Str.ofString "give_variable"), (.str (Str.ofString "give_variable") 987), (.ref 555)⟩ :: ⟨PyData.keyHash P (Str.ofString "fn_called"), (.str (Str.ofString "fn_called") 993), (.ref 560)⟩ :: ⟨PyData.keyHash P (Str.ofString "parts_of_tree"), (.str (Str.ofString "parts_of_tree") 1002), (.ref 567)⟩ :: ⟨PyData.keyHash P (Str.ofString "LOGIC"), (.str (Str.ofString "LOGIC") 1010), (.ref 568)⟩ :: ⟨PyData.keyHash P (Str.ofString "COMPARISONS"), (.str (Str.ofString "COMPARISONS") 1017), (.ref 569)⟩ :: ⟨PyData.keyHash P (Str.ofString "order_of_texts"), (.str (Str.ofString "order_of_texts") 1025), (.ref 576)⟩ :: ⟨PyData.keyHash P (Str.ofString "compared"), (.str (Str.ofString "compared") 1033), (.ref 583)⟩ :: ⟨PyData.keyHash P (Str.ofString "worth_of_texts"), (.str (Str.ofString "worth_of_texts") 1042), (.ref 590)⟩ :: ⟨PyData.keyHash P (Str.ofString "worth_of_two"), (.str (Str.ofString "worth_of_two") 1048), (.ref 595)⟩ :: ⟨PyData.keyHash P (Str.ofString "worth_of_one"), (.str (Str.ofString "worth_of_one") 1058), (.ref 602)⟩ :: ⟨PyData.keyHash P (Str.ofString "worth_of_leaf"), (.str (Str.ofString "worth_of_leaf") 1069), (.ref 609)⟩ :: ⟨PyData.keyHash P (Str.ofString "worth_of_tree"), (.str (Str.ofString "worth_of_tree") 1079), (.ref 616)⟩ :: ⟨PyData.keyHash P (Str.ofString "worth"), (.str (Str.ofString "worth") 1085), (.ref 621)⟩ :: ⟨PyData.keyHash P (Str.ofString "worth_worth"), (.str (Str.ofString "worth_worth") 1086), (.ref 621)⟩ :: ⟨PyData.keyHash P (Str.ofString "MOST_PILE"), (.str (Str.ofString "MOST_PILE") 1090), (.int (20) 1089)⟩ :: ⟨PyData.keyHash P (Str.ofString "WorkRun"), (.str (Str.ofString "WorkRun") 1242), (.ref 732)⟩ :: ⟨PyData.keyHash P (Str.ofString "_law_next"), (.str (Str.ofString "_law_next") 1252), (.ref 743)⟩ :: ⟨PyData.keyHash P (Str.ofString "_law_sub"), (.str (Str.ofString "_law_sub") 1261), (.ref 750)⟩ :: ⟨PyData.keyHash P (Str.ofString "_law_target"), (.str (Str.ofString "_law_target") 1269), (.ref 757)⟩ :: ⟨PyData.keyHash P (Str.ofString "_law_order"), (.str (Str.ofString "_law_order") 1284), (.ref 764)⟩ :: ⟨PyData.keyHash P (Str.ofString "_law_key"), (.str (Str.ofString "_law_key") 1293), (.ref 771)⟩ :: ⟨PyData.keyHash P (Str.ofString "_law_worth"), (.str (Str.ofString "_law_worth") 1301), (.ref 778)⟩ :: ⟨PyData.keyHash P (Str.ofString "_law_done"), (.str (Str.ofString "_law_done") 1322), (.ref 785)⟩ :: ⟨PyData.keyHash P (Str.ofString "_law_code"), (.str (Str.ofString "_law_code") 1330), (.ref 792)⟩ :: ⟨PyData.keyHash P (Str.ofString "_law_stands"), (.str (Str.ofString "_law_stands") 1336), (.ref 797)⟩ :: ⟨PyData.keyHash P (Str.ofString "law"), (.str (Str.ofString "law") 1342), (.ref 802)⟩ :: [])) 108, #[]⟩) ::
     (nat_lit 4, ⟨(.type "module"), (some 0), .plain, #[]⟩) ::
     (nat_lit 5, ⟨(.type "module"), (some 3), .plain, #[]⟩) ::
     (nat_lit 6, ⟨(.type "dict"), none, .dict (List.toArray ([])) 0, #[]⟩) ::
     (nat_lit 7, ⟨(.type "tuple"), none, .seq #[] 0, #[]⟩) ::
     (nat_lit 9, ⟨(.type "code"), none, .fields #[(.str (Str.ofString "<module>") 176), (.str (Str.ofString "<module>") 177), (.str (Str.ofString "/claim/cut.py") 178), (.int (1) 0), (.int (0) 0), (.int (0) 0), (.int (0) 0), (.int (0) 0), (.ref 7), (.bool false), (.int (175) 0), (.ref 8), .none, .none, .none, .none, (.int (179) 0), (.int (1) 0), (.str (Str.ofString "/claim/cut.py") 180)], #[]⟩) ::
     (nat_lit 10, ⟨(.type "frame"), none, .plain, #[(some (.ref 9)), (some (.ref 3)), (some (.ref 3)), none, (some (.str (Str.ofString "__main__") 164)), none, (some (.ref 0))]⟩) ::
     (nat_lit 11, ⟨(.type "tuple"), none, .seq #[] 0, #[]⟩) ::
     (nat_lit 13, ⟨(.type "code"), none, .fields #[(.str (Str.ofString "<module>") 182), (.str (Str.ofString "<module>") 183), (.str (Str.ofString "/claim/cut.py") 184), (.int (1) 0), (.int (0) 0), (.int (0) 0), (.int (0) 0), (.int (0) 0), (.ref 11), (.bool false), (.int (181) 0), (.ref 12), .none, .none, .none, .none, (.int (185) 0), (.int (1) 0), (.str (Str.ofString "/claim/cut.py") 186)], #[]⟩) ::
     (nat_lit 14, ⟨(.type "frame"), none, .plain, #[(some (.ref 13)), (some (.ref 3)), (some (.ref 3)), none, (some (.str (Str.ofString "__main__") 164)), none, (some (.ref 0))]⟩) ::
     (nat_lit 15, ⟨(.type "tuple"), none, .seq #[] 0, #[]⟩) ::
     (nat_lit 22, ⟨(.type "tuple"), none, .seq #[(.type "Exception")] 0, #[]⟩) ::
     (nat_lit 25, ⟨(.type "cell"), none, .cell (some (.ref 41)), #[]⟩) ::
     (nat_lit 30, ⟨(.type "tuple"), none, .seq #[(.str (Str.ofString "") 212)] 0, #[]⟩) ::
     (nat_lit 31, ⟨(.type "tuple"), none, .seq #[(.ref 25)] 0, #[]⟩) ::
     (nat_lit 37, ⟨(.type "code"), none, .fields #[(.str (Str.ofString "__init__") 213), (.str (Str.ofString "BasicError.__init__") 214), (.str (Str.ofString "/claim/cut.py") 215), (.int (9) 0), (.int (3) 0), (.int (0) 0), (.int (0) 0), (.int (3) 0), (.ref 32), (.bool true), (.int (181) 0), (.ref 33), .none, (.ref 34), (.ref 35), (.ref 36), (.int (220) 0), (.int (9) 0), (.str (Str.ofString "/claim/cut.py") 221)], #[]⟩) ::
     (nat_lit 38, ⟨(.type "function"), none, .func { name := (Str.ofString "__init__"), qualname := (Str.ofString "BasicError.__init__"), params := ?a4x0, body := .stmts ?b4x0, scope := ?s4x0, globals := 3, closure := [((Str.ofString "__class__"), 25)], defaults := (.ref 30), kwdefaults := .none, doc := .none, pyModule := (.str (Str.ofString "basicplus.values") 194), annotations := none, code := (.ref 37), closureTuple := (.ref 31), builtins := 0 }, #[]⟩) ::
     (nat_lit 39, ⟨(.type "tuple"), none, .seq #[(.str (Str.ofString "code") 223), (.str (Str.ofString "told") 224)] 0, #[]⟩) ::
     (nat_lit 40, ⟨(.type "dict"), none, .dict (List.toArray (⟨PyData.keyHash P (Str.ofString "__module__"), (.str (Str.ofString "__module__") 207), (.str (Str.ofString "basicplus.values") 194)⟩ :: ⟨PyData.keyHash P (Str.ofString "__firstlineno__"), (.str (Str.ofString "__firstlineno__") 211), (.int (7) 210)⟩ :: ⟨PyData.keyHash P (Str.ofString "__init__"), (.str (Str.ofString "__init__") 222), (.ref 38)⟩ :: ⟨PyData.keyHash P (Str.ofString "__static_attributes__"), (.str (Str.ofString "__static_attributes__") 225), (.ref 39)⟩ :: ⟨PyData.keyHash P (Str.ofString "__weakref__"), (.str (Str.ofString "__weakref__") 228), (.ref 42)⟩ :: ⟨PyData.keyHash P (Str.ofString "__doc__"), (.str (Str.ofString "__doc__") 229), .none⟩ :: [])) 4, #[]⟩) ::
     (nat_lit 41, ⟨(.type "type"), none, .cls { name := (Str.ofString "BasicError"), bases := [(.type "Exception")], mro := [(.ref 41), (.type "Exception"), (.type "BaseException"), (.type "object")], ns := 40, qualname := (Str.ofString "BasicError"), hasDict := true, slotNames := [], subclasses := [], abstract := false, collection := none, hasDel := false }, #[(some (.ref 22)), none, (some (.str (Str.ofString "BasicError") 200)), (some (.str (Str.ofString "BasicError") 208)), (some (.builtin "Exception.__new__")), (some (.bool true))]⟩) ::
     (nat_lit 42, ⟨(.type "getset_descriptor"), none, .fields #[(.str (Str.ofString "__weakref__") 227), (.ref 41), (.builtin "ExceptionGroup.__weakref__"), .none], #[]⟩) ::
     (nat_lit 71, ⟨(.type "code"), none, .fields #[(.str (Str.ofString "kind_of") 259), (.str (Str.ofString "kind_of") 260), (.str (Str.ofString "/claim/cut.py") 261), (.int (27) 0), (.int (1) 0), (.int (0) 0), (.int (0) 0), (.int (3) 0), (.ref 66), (.bool true), (.int (181) 0), (.ref 67), .none, (.ref 68), (.ref 69), (.ref 70), (.int (263) 0), (.int (27) 0), (.str (Str.ofString "/claim/cut.py") 264)], #[]⟩) ::
     (nat_lit 72, ⟨(.type "function"), none, .func { name := (Str.ofString "kind_of"), qualname := (Str.ofString "kind_of"), params := ?a8, body := .stmts ?b8, scope := ?s8, globals := 3, closure := [], defaults := .none, kwdefaults := .none, doc := .none, pyModule := (.str (Str.ofString "basicplus.values") 194), annotations := none, code := (.ref 71), closureTuple := .none, builtins := 0 }, #[]⟩) ::
     (nat_lit 78, ⟨(.type "code"), none, .fields #[(.str (Str.ofString "kind_of_name") 266), (.str (Str.ofString "kind_of_name") 267), (.str (Str.ofString "/claim/cut.py") 268), (.int (31) 0), (.int (2) 0), (.int (0) 0), (.int (0) 0), (.int (3) 0), (.ref 73), (.bool true), (.int (181) 0), (.ref 74), .none, (.ref 75), (.ref 76), (.ref 77), (.int (272) 0), (.int (31) 0), (.str (Str.ofString "/claim/cut.py") 273)], #[]⟩) ::
     (nat_lit 79, ⟨(.type "function"), none, .func { name := (Str.ofString "kind_of_name"), qualname := (Str.ofString "kind_of_name"), params := ?a9, body := .stmts ?b9, scope := ?s9, globals := 3, closure := [], defaults := .none, kwdefaults := .none, doc := .none, pyModule := (.str (Str.ofString "basicplus.values") 194), annotations := none, code := (.ref 78), closureTuple := .none, builtins := 0 }, #[]⟩) ::
     (nat_lit 85, ⟨(.type "code"), none, .fields #[(.str (Str.ofString "first_value") 275), (.str (Str.ofString "first_value") 276), (.str (Str.ofString "/claim/cut.py") 277), (.int (38) 0), (.int (1) 0), (.int (0) 0), (.int (0) 0), (.int (3) 0), (.ref 80), (.bool true), (.int (181) 0), (.ref 81), .none, (.ref 82), (.ref 83), (.ref 84), (.int (279) 0), (.int (38) 0), (.str (Str.ofString "/claim/cut.py") 280)], #[]⟩) ::
     (nat_lit 86, ⟨(.type "function"), none, .func { name := (Str.ofString "first_value"), qualname := (Str.ofString "first_value"), params := ?a10, body := .stmts ?b10, scope := ?s10, globals := 3, closure := [], defaults := .none, kwdefaults := .none, doc := .none, pyModule := (.str (Str.ofString "basicplus.values") 194), annotations := none, code := (.ref 85), closureTuple := .none, builtins := 0 }, #[]⟩) ::
     (nat_lit 92, ⟨(.type "code"), none, .fields #[(.str (Str.ofString "figures_of") 282), (.str (Str.ofString "figures_of") 283), (.str (Str.ofString "/claim/cut.py") 284), (.int (42) 0), (.int (1) 0), (.int (0) 0), (.int (0) 0), (.int (3) 0), (.ref 87), (.bool true), (.int (181) 0), (.ref 88), .none, (.ref 89), (.ref 90), (.ref 91), (.int (288) 0), (.int (42) 0), (.str (Str.ofString "/claim/cut.py") 289)], #[]⟩) ::
     (nat_lit 93, ⟨(.type "function"), none, .func { name := (Str.ofString "figures_of"), qualname := (Str.ofString "figures_of"), params := ?a11, body := .stmts ?b11, scope := ?s11, globals := 3, closure := [], defaults := .none, kwdefaults := .none, doc := .none, pyModule := (.str (Str.ofString "basicplus.values") 194), annotations := none, code := (.ref 92), closureTuple := .none, builtins := 0 }, #[]⟩) ::
     (nat_lit 99, ⟨(.type "code"), none, .fields #[(.str (Str.ofString "rounded_by") 291), (.str (Str.ofString "rounded_by") 292), (.str (Str.ofString "/claim/cut.py") 293), (.int (48) 0), (.int (2) 0), (.int (0) 0), (.int (0) 0), (.int (3) 0), (.ref 94), (.bool true), (.int (181) 0), (.ref 95), .none, (.ref 96), (.ref 97), (.ref 98), (.int (299) 0), (.int (48) 0), (.str (Str.ofString "/claim/cut.py") 300)], #[]⟩) ::
     (nat_lit 100, ⟨(.type "function"), none, .func { name := (Str.ofString "rounded_by"), qualname := (Str.ofString "rounded_by"), params := ?a12, body := .stmts ?b12, scope := ?s12, globals := 3, closure := [], defaults := .none, kwdefaults := .none, doc := .none, pyModule := (.str (Str.ofString "basicplus.values") 194), annotations := none, code := (.ref 99), closureTuple := .none, builtins := 0 }, #[]⟩) ::
     (nat_lit 106, ⟨(.type "code"), none, .fields #[(.str (Str.ofString "made") 302), (.str (Str.ofString "made") 303), (.str (Str.ofString "/claim/cut.py") 304), (.int (58) 0), (.int (3) 0), (.int (0) 0), (.int (0) 0), (.int (3) 0), (.ref 101), (.bool true), (.int (181) 0), (.ref 102), .none, (.ref 103), (.ref 104), (.ref 105), (.int (311) 0), (.int (58) 0), (.str (Str.ofString "/claim/cut.py") 312)], #[]⟩) ::
     (nat_lit 107, ⟨(.type "function"), none, .func { name := (Str.ofString "made"), qualname := (Str.ofString "made"), params := ?a13, body := .stmts ?b13, scope := ?s13, globals := 3, closure := [], defaults := .none, kwdefaults := .none, doc := .none, pyModule := (.str (Str.ofString "basicplus.values") 194), annotations := none, code := (.ref 106), closureTuple := .none, builtins := 0 }, #[]⟩) ::
     (nat_lit 113, ⟨(.type "code"), none, .fields #[(.str (Str.ofString "whole_near") 314), (.str (Str.ofString "whole_near") 315), (.str (Str.ofString "/claim/cut.py") 316), (.int (73) 0), (.int (1) 0), (.int (0) 0), (.int (0) 0), (.int (3) 0), (.ref 108), (.bool true), (.int (181) 0), (.ref 109), .none, (.ref 110), (.ref 111), (.ref 112), (.int (321) 0), (.int (73) 0), (.str (Str.ofString "/claim/cut.py") 322)], #[]⟩) ::
     (nat_lit 114, ⟨(.type "function"), none, .func { name := (Str.ofString "whole_near"), qualname := (Str.ofString "whole_near"), params := ?a14, body := .stmts ?b14, scope := ?s14, globals := 3, closure := [], defaults := .none, kwdefaults := .none, doc := .none, pyModule := (.str (Str.ofString "basicplus.values") 194), annotations := none, code := (.ref 113), closureTuple := .none, builtins := 0 }, #[]⟩) ::
     (nat_lit 120, ⟨(.type "code"), none, .fields #[(.str (Str.ofString "fits") 324), (.str (Str.ofString "fits") 325), (.str (Str.ofString "/claim/cut.py") 326), (.int (79) 0), (.int (2) 0), (.int (0) 0), (.int (0) 0), (.int (3) 0), (.ref 115), (.bool true), (.int (181) 0), (.ref 116), .none, (.ref 117), (.ref 118), (.ref 119), (.int (329) 0), (.int (79) 0), (.str (Str.ofString "/claim/cut.py") 330)], #[]⟩) ::
     (nat_lit 121, ⟨(.type "function"), none, .func { name := (Str.ofString "fits"), qualname := (Str.ofString "fits"), params := ?a15, body := .stmts ?b15, scope := ?s15, globals := 3, closure := [], defaults := .none, kwdefaults := .none, doc := .none, pyModule := (.str (Str.ofString "basicplus.values") 194), annotations := none, code := (.ref 120), closureTuple := .none, builtins := 0 }, #[]⟩) ::
     (nat_lit 127, ⟨(.type "code"), none, .fields #[(.str (Str.ofString "whole_of") 332), (.str (Str.ofString "whole_of") 333), (.str (Str.ofString "/claim/cut.py") 334), (.int (81) 0), (.int (2) 0), (.int (0) 0), (.int (0) 0), (.int (3) 0), (.ref 122), (.bool true), (.int (181) 0), (.ref 123), .none, (.ref 124), (.ref 125), (.ref 126), (.int (338) 0), (.int (81) 0), (.str (Str.ofString "/claim/cut.py") 339)], #[]⟩) ::
     (nat_lit 128, ⟨(.type "function"), none, .func { name := (Str.ofString "whole_of"), qualname := (Str.ofString "whole_of"), params := ?a16, body := .stmts ?b16, scope := ?s16, globals := 3, closure := [], defaults := .none, kwdefaults := .none, doc := .none, pyModule := (.str (Str.ofString "basicplus.values") 194), annotations := none, code := (.ref 127), closureTuple := .none, builtins := 0 }, #[]⟩) ::
     (nat_lit 134, ⟨(.type "code"), none, .fields #[(.str (Str.ofString "decimal_of") 341), (.str (Str.ofString "decimal_of") 342), (.str (Str.ofString "/claim/cut.py") 343), (.int (88) 0), (.int (2) 0), (.int (0) 0), (.int (0) 0), (.int (3) 0), (.ref 129), (.bool true), (.int (181) 0), (.ref 130), .none, (.ref 131), (.ref 132), (.ref 133), (.int (346) 0), (.int (88) 0), (.str (Str.ofString "/claim/cut.py") 347)], #[]⟩) ::
     (nat_lit 135, ⟨(.type "function"), none, .func { name := (Str.ofString "decimal_of"), qualname := (Str.ofString "decimal_of"), params := ?a17, body := .stmts ?b17, scope := ?s17, globals := 3, closure := [], defaults := .none, kwdefaults := .none, doc := .none, pyModule := (.str (Str.ofString "basicplus.values") 194), annotations := none, code := (.ref 134), closureTuple := .none, builtins := 0 }, #[]⟩) ::
     (nat_lit 141, ⟨(.type "code"), none, .fields #[(.str (Str.ofString "text_of") 349), (.str (Str.ofString "text_of") 350), (.str (Str.ofString "/claim/cut.py") 351), (.int (92) 0), (.int (1) 0), (.int (0) 0), (.int (0) 0), (.int (3) 0), (.ref 136), (.bool true), (.int (181) 0), (.ref 137), .none, (.ref 138), (.ref 139), (.ref 140), (.int (353) 0), (.int (92) 0), (.str (Str.ofString "/claim/cut.py") 354)], #[]⟩) ::
     (nat_lit 142, ⟨(.type "function"), none, .func { name := (Str.ofString "text_of"), qualname := (Str.ofString "text_of"), params := ?a18, body := .stmts ?b18, scope := ?s18, globals := 3, closure := [], defaults := .none, kwdefaults := .none, doc := .none, pyModule := (.str (Str.ofString "basicplus.values") 194), annotations := none, code := (.ref 141), closureTuple := .none, builtins := 0 }, #[]⟩) ::
     (nat_lit 148, ⟨(.type "code"), none, .fields #[(.str (Str.ofString "checked_text") 356), (.str (Str.ofString "checked_text") 357), (.str (Str.ofString "/claim/cut.py") 358), (.int (96) 0), (.int (1) 0), (.int (0) 0), (.int (0) 0), (.int (3) 0), (.ref 143), (.bool true), (.int (181) 0), (.ref 144), .none, (.ref 145), (.ref 146), (.ref 147), (.int (360) 0), (.int (96) 0), (.str (Str.ofString "/claim/cut.py") 361)], #[]⟩) ::
     (nat_lit 149, ⟨(.type "function"), none, .func { name := (Str.ofString "checked_text"), qualname := (Str.ofString "checked_text"), params := ?a19, body := .stmts ?b19, scope := ?s19, globals := 3, closure := [], defaults := .none, kwdefaults := .none, doc := .none, pyModule := (.str (Str.ofString "basicplus.values") 194), annotations := none, code := (.ref 148), closureTuple := .none, builtins := 0 }, #[]⟩) ::
     (nat_lit 155, ⟨(.type "code"), none, .fields #[(.str (Str.ofString "suited") 363), (.str (Str.ofString "suited") 364), (.str (Str.ofString "/claim/cut.py") 365), (.int (100) 0), (.int (4) 0), (.int (0) 0), (.int (0) 0), (.int (3) 0), (.ref 150), (.bool true), (.int (181) 0), (.ref 151), .none, (.ref 152), (.ref 153), (.ref 154), (.int (370) 0), (.int (100) 0), (.str (Str.ofString "/claim/cut.py") 371)], #[]⟩) ::
     (nat_lit 156, ⟨(.type "function"), none, .func { name := (Str.ofString "suited"), qualname := (Str.ofString "suited"), params := ?a20, body := .stmts ?b20, scope := ?s20, globals := 3, closure := [], defaults := .none, kwdefaults := .none, doc := .none, pyModule := (.str (Str.ofString "basicplus.values") 194), annotations := none, code := (.ref 155), closureTuple := .none, builtins := 0 }, #[]⟩) ::
     (nat_lit 171, ⟨(.type "tuple"), none, .seq #[(.int (16) 394), (.int (9) 395), (.int (2000) 396), (.int (20) 397), (.int (2000) 398)] 0, #[]⟩) ::
     (nat_lit 177, ⟨(.type "code"), none, .fields #[(.str (Str.ofString "__init__") 399), (.str (Str.ofString "World.__init__") 400), (.str (Str.ofString "/claim/cut.py") 401), (.int (109) 0), (.int (6) 0), (.int (0) 0), (.int (0) 0), (.int (3) 0), (.ref 172), (.bool true), (.int (181) 0), (.ref 173), .none, (.ref 174), (.ref 175), (.ref 176), (.int (408) 0), (.int (109) 0), (.str (Str.ofString "/claim/cut.py") 409)], #[]⟩) ::
     (nat_lit 178, ⟨(.type "function"), none, .func { name := (Str.ofString "__init__"), qualname := (Str.ofString "World.__init__"), params := ?a23x0, body := .stmts ?b23x0, scope := ?s23x0, globals := 3, closure := [], defaults := (.ref 171), kwdefaults := .none, doc := .none, pyModule := (.str (Str.ofString "basicplus.world") 380), annotations := none, code := (.ref 177), closureTuple := .none, builtins := 0 }, #[]⟩) ::
     (nat_lit 179, ⟨(.type "tuple"), none, .seq #[(.str (Str.ofString "arrays") 411), (.str (Str.ofString "base") 412), (.str (Str.ofString "bits") 413), (.str (Str.ofString "common") 414), (.str (Str.ofString "data") 415), (.str (Str.ofString "depth") 416), (.str (Str.ofString "digits") 417), (.str (Str.ofString "error_code") 418), (.str (Str.ofString "error_line") 419), (.str (Str.ofString "fields") 420), (.str (Str.ofString "files") 421), (.str (Str.ofString "fns") 422), (.str (Str.ofString "handler") 423), (.str (Str.ofString "inputs") 424), (.str (Str.ofString "is_handling") 425), (.str (Str.ofString "is_traced") 426), (.str (Str.ofString "kinds") 427), (.str (Str.ofString "most_depth") 428), (.str (Str.ofString "most_steps") 429), (.str (Str.ofString "names") 430), (.str (Str.ofString "open") 431), (.str (Str.ofString "out") 432), (.str (Str.ofString "room") 433), (.str (Str.ofString "row") 434), (.str (Str.ofString "seed") 435), (.str (Str.ofString "spot") 436), (.str (Str.ofString "steps") 437), (.str (Str.ofString "traces") 438)] 0, #[]⟩) ::
     (nat_lit 180, ⟨(.type "dict"), none, .dict (List.toArray (⟨PyData.keyHash P (Str.ofString "__module__"), (.str (Str.ofString "__module__") 389), (.str (Str.ofString "basicplus.world") 380)⟩ :: ⟨PyData.keyHash P (Str.ofString "__firstlineno__"), (.str (Str.ofString "__firstlineno__") 393), (.int (107) 392)⟩ :: ⟨PyData.keyHash P (Str.ofString "__init__"), (.str (Str.ofString "__init__") 410), (.ref 178)⟩ :: ⟨PyData.keyHash P (Str.ofString "__static_attributes__"), (.str (Str.ofString "__static_attributes__") 439), (.ref 179)⟩ :: ⟨PyData.keyHash P (Str.ofString "__dict__"), (.str (Str.ofString "__dict__") 441), (.ref 182)⟩ :: ⟨PyData.keyHash P (Str.ofString "__weakref__"), (.str (Str.ofString "__weakref__") 443), (.ref 183)⟩ :: ⟨PyData.keyHash P (Str.ofString "__doc__"), (.str (Str.ofString "__doc__") 444), .none⟩ :: [])) 4, #[]⟩) ::
     (nat_lit 181, ⟨(.type "type"), none, .cls { name := (Str.ofString "World"), bases := [(.type "object")], mro := [(.ref 181), (.type "object")], ns := 180, qualname := (Str.ofString "World"), hasDict := true, slotNames := [], subclasses := [], abstract := false, collection := none, hasDel := false }, #[none, none, (some (.str (Str.ofString "World") 382)), (some (.str (Str.ofString "World") 390)), (some (.builtin "object.__new__")), (some (.bool true))]⟩) ::
     (nat_lit 182, ⟨(.type "getset_descriptor"), none, .fields #[(.str (Str.ofString "__dict__") 440), (.ref 181), (.builtin "function.__dict__"), (.builtin "function.__dict__#set")], #[]⟩) ::
     (nat_lit 183, ⟨(.type "getset_descriptor"), none, .fields #[(.str (Str.ofString "__weakref__") 442), (.ref 181), (.builtin "ExceptionGroup.__weakref__"), .none], #[]⟩) ::
     (nat_lit 191, ⟨(.type "code"), none, .fields #[(.str (Str.ofString "kind_here") 447), (.str (Str.ofString "kind_here") 448), (.str (Str.ofString "/claim/cut.py") 449), (.int (138) 0), (.int (2) 0), (.int (0) 0), (.int (0) 0), (.int (3) 0), (.ref 186), (.bool true), (.int (181) 0), (.ref 187), .none, (.ref 188), (.ref 189), (.ref 190), (.int (452) 0), (.int (138) 0), (.str (Str.ofString "/claim/cut.py") 453)], #[]⟩) ::
     (nat_lit 192, ⟨(.type "function"), none, .func { name := (Str.ofString "kind_here"), qualname := (Str.ofString "kind_here"), params := ?a24, body := .stmts ?b24, scope := ?s24, globals := 3, closure := [], defaults := .none, kwdefaults := .none, doc := .none, pyModule := (.str (Str.ofString "basicplus.world") 380), annotations := none, code := (.ref 191), closureTuple := .none, builtins := 0 }, #[]⟩) ::
     (nat_lit 198, ⟨(.type "code"), none, .fields #[(.str (Str.ofString "get_name") 455), (.str (Str.ofString "get_name") 456), (.str (Str.ofString "/claim/cut.py") 457), (.int (140) 0), (.int (2) 0), (.int (0) 0), (.int (0) 0), (.int (3) 0), (.ref 193), (.bool true), (.int (181) 0), (.ref 194), .none, (.ref 195), (.ref 196), (.ref 197), (.int (460) 0), (.int (140) 0), (.str (Str.ofString "/claim/cut.py") 461)], #[]⟩) ::
     (nat_lit 199, ⟨(.type "function"), none, .func { name := (Str.ofString "get_name"), qualname := (Str.ofString "get_name"), params := ?a25, body := .stmts ?b25, scope := ?s25, globals := 3, closure := [], defaults := .none, kwdefaults := .none, doc := .none, pyModule := (.str (Str.ofString "basicplus.world") 380), annotations := none, code := (.ref 198), closureTuple := .none, builtins := 0 }, #[]⟩) ::
     (nat_lit 205, ⟨(.type "code"), none, .fields #[(.str (Str.ofString "set_name") 463), (.str (Str.ofString "set_name") 464), (.str (Str.ofString "/claim/cut.py") 465), (.int (142) 0), (.int (3) 0), (.int (0) 0), (.int (0) 0), (.int (3) 0), (.ref 200), (.bool true), (.int (181) 0), (.ref 201), .none, (.ref 202), (.ref 203), (.ref 204), (.int (469) 0), (.int (142) 0), (.str (Str.ofString "/claim/cut.py") 470)], #[]⟩) ::
     (nat_lit 206, ⟨(.type "function"), none, .func { name := (Str.ofString "set_name"), qualname := (Str.ofString "set_name"), params := ?a26, body := .stmts ?b26, scope := ?s26, globals := 3, closure := [], defaults := .none, kwdefaults := .none, doc := .none, pyModule := (.str (Str.ofString "basicplus.world") 380), annotations := none, code := (.ref 205), closureTuple := .none, builtins := 0 }, #[]⟩) ::
     (nat_lit 212, ⟨(.type "code"), none, .fields #[(.str (Str.ofString "kind_of_target") 474), (.str (Str.ofString "kind_of_target") 475), (.str (Str.ofString "/claim/cut.py") 476), (.int (145) 0), (.int (2) 0), (.int (0) 0), (.int (0) 0), (.int (3) 0), (.ref 207), (.bool true), (.int (181) 0), (.ref 208), .none, (.ref 209), (.ref 210), (.ref 211), (.int (479) 0), (.int (145) 0), (.str (Str.ofString "/claim/cut.py") 480)], #[]⟩) ::
     (nat_lit 213, ⟨(.type "function"), none, .func { name := (Str.ofString "kind_of_target"), qualname := (Str.ofString "kind_of_target"), params := ?a28, body := .stmts ?b28, scope := ?s28, globals := 3, closure := [], defaults := .none, kwdefaults := .none, doc := .none, pyModule := (.str (Str.ofString "basicplus.rundo") 472), annotations := none, code := (.ref 212), closureTuple := .none, builtins := 0 }, #[]⟩) ::
     (nat_lit 217, ⟨(.type "code"), none, .fields #[(.str (Str.ofString "place_told") 482), (.str (Str.ofString "place_told") 483), (.str (Str.ofString "/claim/cut.py") 484), (.int (147) 0), (.int (2) 0), (.int (0) 0), (.int (0) 0), (.int (3) 0), (.ref 214), (.bool true), (.int (181) 0), (.ref 215), .none, .none, .none, (.ref 216), (.int (485) 0), (.int (147) 0), (.str (Str.ofString "/claim/cut.py") 486)], #[]⟩) ::
     (nat_lit 218, ⟨(.type "function"), none, .func { name := (Str.ofString "place_told"), qualname := (Str.ofString "place_told"), params := ?a29, body := .stmts ?b29, scope := ?s29, globals := 3, closure := [], defaults := .none, kwdefaults := .none, doc := .none, pyModule := (.str (Str.ofString "basicplus.rundo") 472), annotations := none, code := (.ref 217), closureTuple := .none, builtins := 0 }, #[]⟩) ::
     (nat_lit 224, ⟨(.type "code"), none, .fields #[(.str (Str.ofString "value_at") 488), (.str (Str.ofString "value_at") 489), (.str (Str.ofString "/claim/cut.py") 490), (.int (153) 0), (.int (2) 0), (.int (0) 0), (.int (0) 0), (.int (3) 0), (.ref 219), (.bool true), (.int (181) 0), (.ref 220), .none, (.ref 221), (.ref 222), (.ref 223), (.int (493) 0), (.int (153) 0), (.str (Str.ofString "/claim/cut.py") 494)], #[]⟩) ::
     (nat_lit 225, ⟨(.type "function"), none, .func { name := (Str.ofString "value_at"), qualname := (Str.ofString "value_at"), params := ?a30, body := .stmts ?b30, scope := ?s30, globals := 3, closure := [], defaults := .none, kwdefaults := .none, doc := .none, pyModule := (.str (Str.ofString "basicplus.rundo") 472), annotations := none, code := (.ref 224), closureTuple := .none, builtins := 0 }, #[]⟩) ::
     (nat_lit 231, ⟨(.type "code"), none, .fields #[(.str (Str.ofString "put_at") 496), (.str (Str.ofString "put_at") 497), (.str (Str.ofString "/claim/cut.py") 498), (.int (155) 0), (.int (3) 0), (.int (0) 0), (.int (0) 0), (.int (3) 0), (.ref 226), (.bool true), (.int (181) 0), (.ref 227), .none, (.ref 228), (.ref 229), (.ref 230), (.int (502) 0), (.int (155) 0), (.str (Str.ofString "/claim/cut.py") 503)], #[]⟩) ::
     (nat_lit 232, ⟨(.type "function"), none, .func { name := (Str.ofString "put_at"), qualname := (Str.ofString "put_at"), params := ?a31, body := .stmts ?b31, scope := ?s31, globals := 3, closure := [], defaults := .none, kwdefaults := .none, doc := .none, pyModule := (.str (Str.ofString "basicplus.rundo") 472), annotations := none, code := (.ref 231), closureTuple := .none, builtins := 0 }, #[]⟩) ::
     (nat_lit 238, ⟨(.type "code"), none, .fields #[(.str (Str.ofString "do_swap") 505), (.str (Str.ofString "do_swap") 506), (.str (Str.ofString "/claim/cut.py") 507), (.int (160) 0), (.int (2) 0), (.int (0) 0), (.int (0) 0), (.int (3) 0), (.ref 233), (.bool true), (.int (181) 0), (.ref 234), .none, (.ref 235), (.ref 236), (.ref 237), (.int (514) 0), (.int (160) 0), (.str (Str.ofString "/claim/cut.py") 515)], #[]⟩) ::
     (nat_lit 239, ⟨(.type "function"), none, .func { name := (Str.ofString "do_swap"), qualname := (Str.ofString "do_swap"), params := ?a32, body := .stmts ?b32, scope := ?s32, globals := 3, closure := [], defaults := .none, kwdefaults := .none, doc := .none, pyModule := (.str (Str.ofString "basicplus.rundo") 472), annotations := none, code := (.ref 238), closureTuple := .none, builtins := 0 }, #[]⟩) ::
     (nat_lit 245, ⟨(.type "code"), none, .fields #[(.str (Str.ofString "do_mid") 517), (.str (Str.ofString "do_mid") 518), (.str (Str.ofString "/claim/cut.py") 519), (.int (168) 0), (.int (2) 0), (.int (0) 0), (.int (0) 0), (.int (3) 0), (.ref 240), (.bool true), (.int (181) 0), (.ref 241), .none, (.ref 242), (.ref 243), (.ref 244), (.int (533) 0), (.int (168) 0), (.str (Str.ofString "/claim/cut.py") 534)], #[]⟩) ::
     (nat_lit 246, ⟨(.type "function"), none, .func { name := (Str.ofString "do_mid"), qualname := (Str.ofString "do_mid"), params := ?a33, body := .stmts ?b33, scope := ?s33, globals := 3, closure := [], defaults := .none, kwdefaults := .none, doc := .none, pyModule := (.str (Str.ofString "basicplus.rundo") 472), annotations := none, code := (.ref 245), closureTuple := .none, builtins := 0 }, #[]⟩) ::
     (nat_lit 259, ⟨(.type "code"), none, .fields #[(.str (Str.ofString "__init__") 552), (.str (Str.ofString "Grid.__init__") 553), (.str (Str.ofString "/claim/cut.py") 554), (.int (181) 0), (.int (4) 0), (.int (0) 0), (.int (0) 0), (.int (3) 0), (.ref 254), (.bool true), (.int (181) 0), (.ref 255), .none, (.ref 256), (.ref 257), (.ref 258), (.int (559) 0), (.int (181) 0), (.str (Str.ofString "/claim/cut.py") 560)], #[]⟩) ::
     (nat_lit 260, ⟨(.type "function"), none, .func { name := (Str.ofString "__init__"), qualname := (Str.ofString "Grid.__init__"), params := ?a36x0, body := .stmts ?b36x0, scope := ?s36x0, globals := 3, closure := [], defaults := .none, kwdefaults := .none, doc := .none, pyModule := (.str (Str.ofString "basicplus.arrays") 536), annotations := none, code := (.ref 259), closureTuple := .none, builtins := 0 }, #[]⟩) ::
     (nat_lit 261, ⟨(.type "tuple"), none, .seq #[(.str (Str.ofString "base") 562), (.str (Str.ofString "highs") 563), (.str (Str.ofString "items") 564), (.str (Str.ofString "kind") 565), (.str (Str.ofString "room") 566)] 0, #[]⟩) ::
     (nat_lit 262, ⟨(.type "dict"), none, .dict (List.toArray (⟨PyData.keyHash P (Str.ofString "__module__"), (.str (Str.ofString "__module__") 547), (.str (Str.ofString "basicplus.arrays") 536)⟩ :: ⟨PyData.keyHash P (Str.ofString "__firstlineno__"), (.str (Str.ofString "__firstlineno__") 551), (.int (179) 550)⟩ :: ⟨PyData.keyHash P (Str.ofString "__init__"), (.str (Str.ofString "__init__") 561), (.ref 260)⟩ :: ⟨PyData.keyHash P (Str.ofString "__static_attributes__"), (.str (Str.ofString "__static_attributes__") 567), (.ref 261)⟩ :: ⟨PyData.keyHash P (Str.ofString "__dict__"), (.str (Str.ofString "__dict__") 569), (.ref 264)⟩ :: ⟨PyData.keyHash P (Str.ofString "__weakref__"), (.str (Str.ofString "__weakref__") 571), (.ref 265)⟩ :: ⟨PyData.keyHash P (Str.ofString "__doc__"), (.str (Str.ofString "__doc__") 572), .none⟩ :: [])) 4, #[]⟩) ::
     (nat_lit 263, ⟨(.type "type"), none, .cls { name := (Str.ofString "Grid"), bases := [(.type "object")], mro := [(.ref 263), (.type "object")], ns := 262, qualname := (Str.ofString "Grid"), hasDict := true, slotNames := [], subclasses := [], abstract := false, collection := none, hasDel := false }, #[none, none, (some (.str (Str.ofString "Grid") 540)), (some (.str (Str.ofString "Grid") 548)), (some (.builtin "object.__new__")), (some (.bool true))]⟩) ::
     (nat_lit 264, ⟨(.type "getset_descriptor"), none, .fields #[(.str (Str.ofString "__dict__") 568), (.ref 263), (.builtin "function.__dict__"), (.builtin "function.__dict__#set")], #[]⟩) ::
     (nat_lit 265, ⟨(.type "getset_descriptor"), none, .fields #[(.str (Str.ofString "__weakref__") 570), (.ref 263), (.builtin "ExceptionGroup.__weakref__"), .none], #[]⟩) ::
     (nat_lit 273, ⟨(.type "code"), none, .fields #[(.str (Str.ofString "count_of") 575), (.str (Str.ofString "count_of") 576), (.str (Str.ofString "/claim/cut.py") 577), (.int (187) 0), (.int (2) 0), (.int (0) 0), (.int (0) 0), (.int (3) 0), (.ref 268), (.bool true), (.int (181) 0), (.ref 269), .none, (.ref 270), (.ref 271), (.ref 272), (.int (582) 0), (.int (187) 0), (.str (Str.ofString "/claim/cut.py") 583)], #[]⟩) ::
     (nat_lit 274, ⟨(.type "function"), none, .func { name := (Str.ofString "count_of"), qualname := (Str.ofString "count_of"), params := ?a37, body := .stmts ?b37, scope := ?s37, globals := 3, closure := [], defaults := .none, kwdefaults := .none, doc := .none, pyModule := (.str (Str.ofString "basicplus.arrays") 536), annotations := none, code := (.ref 273), closureTuple := .none, builtins := 0 }, #[]⟩) ::
     (nat_lit 280, ⟨(.type "code"), none, .fields #[(.str (Str.ofString "kind_in") 585), (.str (Str.ofString "kind_in") 586), (.str (Str.ofString "/claim/cut.py") 587), (.int (192) 0), (.int (2) 0), (.int (0) 0), (.int (0) 0), (.int (3) 0), (.ref 275), (.bool true), (.int (181) 0), (.ref 276), .none, (.ref 277), (.ref 278), (.ref 279), (.int (590) 0), (.int (192) 0), (.str (Str.ofString "/claim/cut.py") 591)], #[]⟩) ::
     (nat_lit 281, ⟨(.type "function"), none, .func { name := (Str.ofString "kind_in"), qualname := (Str.ofString "kind_in"), params := ?a38, body := .stmts ?b38, scope := ?s38, globals := 3, closure := [], defaults := .none, kwdefaults := .none, doc := .none, pyModule := (.str (Str.ofString "basicplus.arrays") 536), annotations := none, code := (.ref 280), closureTuple := .none, builtins := 0 }, #[]⟩) ::
     (nat_lit 287, ⟨(.type "code"), none, .fields #[(.str (Str.ofString "check_highs") 593), (.str (Str.ofString "check_highs") 594), (.str (Str.ofString "/claim/cut.py") 595), (.int (194) 0), (.int (2) 0), (.int (0) 0), (.int (0) 0), (.int (3) 0), (.ref 282), (.bool true), (.int (181) 0), (.ref 283), .none, (.ref 284), (.ref 285), (.ref 286), (.int (599) 0), (.int (194) 0), (.str (Str.ofString "/claim/cut.py") 600)], #[]⟩) ::
     (nat_lit 288, ⟨(.type "function"), none, .func { name := (Str.ofString "check_highs"), qualname := (Str.ofString "check_highs"), params := ?a39, body := .stmts ?b39, scope := ?s39, globals := 3, closure := [], defaults := .none, kwdefaults := .none, doc := .none, pyModule := (.str (Str.ofString "basicplus.arrays") 536), annotations := none, code := (.ref 287), closureTuple := .none, builtins := 0 }, #[]⟩) ::
     (nat_lit 294, ⟨(.type "code"), none, .fields #[(.str (Str.ofString "dim") 602), (.str (Str.ofString "dim") 603), (.str (Str.ofString "/claim/cut.py") 604), (.int (202) 0), (.int (3) 0), (.int (0) 0), (.int (0) 0), (.int (3) 0), (.ref 289), (.bool true), (.int (181) 0), (.ref 290), .none, (.ref 291), (.ref 292), (.ref 293), (.int (608) 0), (.int (202) 0), (.str (Str.ofString "/claim/cut.py") 609)], #[]⟩) ::
     (nat_lit 295, ⟨(.type "function"), none, .func { name := (Str.ofString "dim"), qualname := (Str.ofString "dim"), params := ?a40, body := .stmts ?b40, scope := ?s40, globals := 3, closure := [], defaults := .none, kwdefaults := .none, doc := .none, pyModule := (.str (Str.ofString "basicplus.arrays") 536), annotations := none, code := (.ref 294), closureTuple := .none, builtins := 0 }, #[]⟩) ::
     (nat_lit 301, ⟨(.type "code"), none, .fields #[(.str (Str.ofString "grid_of") 611), (.str (Str.ofString "grid_of") 612), (.str (Str.ofString "/claim/cut.py") 613), (.int (207) 0), (.int (3) 0), (.int (0) 0), (.int (0) 0), (.int (3) 0), (.ref 296), (.bool true), (.int (181) 0), (.ref 297), .none, (.ref 298), (.ref 299), (.ref 300), (.int (617) 0), (.int (207) 0), (.str (Str.ofString "/claim/cut.py") 618)], #[]⟩) ::
     (nat_lit 302, ⟨(.type "function"), none, .func { name := (Str.ofString "grid_of"), qualname := (Str.ofString "grid_of"), params := ?a41, body := .stmts ?b41, scope := ?s41, globals := 3, closure := [], defaults := .none, kwdefaults := .none, doc := .none, pyModule := (.str (Str.ofString "basicplus.arrays") 536), annotations := none, code := (.ref 301), closureTuple := .none, builtins := 0 }, #[]⟩) ::
     (nat_lit 308, ⟨(.type "code"), none, .fields #[(.str (Str.ofString "place_of") 620), (.str (Str.ofString "place_of") 621), (.str (Str.ofString "/claim/cut.py") 622), (.int (211) 0), (.int (2) 0), (.int (0) 0), (.int (0) 0), (.int (3) 0), (.ref 303), (.bool true), (.int (181) 0), (.ref 304), .none, (.ref 305), (.ref 306), (.ref 307), (.int (628) 0), (.int (211) 0), (.str (Str.ofString "/claim/cut.py") 629)], #[]⟩) ::
     (nat_lit 309, ⟨(.type "function"), none, .func { name := (Str.ofString "place_of"), qualname := (Str.ofString "place_of"), params := ?a42, body := .stmts ?b42, scope := ?s42, globals := 3, closure := [], defaults := .none, kwdefaults := .none, doc := .none, pyModule := (.str (Str.ofString "basicplus.arrays") 536), annotations := none, code := (.ref 308), closureTuple := .none, builtins := 0 }, #[]⟩) ::
     (nat_lit 315, ⟨(.type "code"), none, .fields #[(.str (Str.ofString "get_item") 631), (.str (Str.ofString "get_item") 632), (.str (Str.ofString "/claim/cut.py") 633), (.int (220) 0), (.int (3) 0), (.int (0) 0), (.int (0) 0), (.int (3) 0), (.ref 310), (.bool true), (.int (181) 0), (.ref 311), .none, (.ref 312), (.ref 313), (.ref 314), (.int (638) 0), (.int (220) 0), (.str (Str.ofString "/claim/cut.py") 639)], #[]⟩) ::
     (nat_lit 316, ⟨(.type "function"), none, .func { name := (Str.ofString "get_item"), qualname := (Str.ofString "get_item"), params := ?a43, body := .stmts ?b43, scope := ?s43, globals := 3, closure := [], defaults := .none, kwdefaults := .none, doc := .none, pyModule := (.str (Str.ofString "basicplus.arrays") 536), annotations := none, code := (.ref 315), closureTuple := .none, builtins := 0 }, #[]⟩) ::
     (nat_lit 322, ⟨(.type "code"), none, .fields #[(.str (Str.ofString "set_item") 641), (.str (Str.ofString "set_item") 642), (.str (Str.ofString "/claim/cut.py") 643), (.int (223) 0), (.int (4) 0), (.int (0) 0), (.int (0) 0), (.int (3) 0), (.ref 317), (.bool true), (.int (181) 0), (.ref 318), .none, (.ref 319), (.ref 320), (.ref 321), (.int (650) 0), (.int (223) 0), (.str (Str.ofString "/claim/cut.py") 651)], #[]⟩) ::
     (nat_lit 323, ⟨(.type "function"), none, .func { name := (Str.ofString "set_item"), qualname := (Str.ofString "set_item"), params := ?a44, body := .stmts ?b44, scope := ?s44, globals := 3, closure := [], defaults := .none, kwdefaults := .none, doc := .none, pyModule := (.str (Str.ofString "basicplus.arrays") 536), annotations := none, code := (.ref 322), closureTuple := .none, builtins := 0 }, #[]⟩) ::
     (nat_lit 324, ⟨(.type "tuple"), none, .seq #[(.int (1) 655), (.int (0) 656)] 0, #[]⟩) ::
     (nat_lit 400, ⟨(.type "code"), none, .fields #[(.str (Str.ofString "is_whole") 762), (.str (Str.ofString "is_whole") 763), (.str (Str.ofString "/claim/cut.py") 764), (.int (272) 0), (.int (1) 0), (.int (0) 0), (.int (0) 0), (.int (3) 0), (.ref 395), (.bool true), (.int (181) 0), (.ref 396), .none, (.ref 397), (.ref 398), (.ref 399), (.int (766) 0), (.int (272) 0), (.str (Str.ofString "/claim/cut.py") 767)], #[]⟩) ::
     (nat_lit 401, ⟨(.type "function"), none, .func { name := (Str.ofString "is_whole"), qualname := (Str.ofString "is_whole"), params := ?a59, body := .stmts ?b59, scope := ?s59, globals := 3, closure := [], defaults := .none, kwdefaults := .none, doc := .none, pyModule := (.str (Str.ofString "basicplus.arith") 760), annotations := none, code := (.ref 400), closureTuple := .none, builtins := 0 }, #[]⟩) ::
     (nat_lit 407, ⟨(.type "code"), none, .fields #[(.str (Str.ofString "settled") 769), (.str (Str.ofString "settled") 770), (.str (Str.ofString "/claim/cut.py") 771), (.int (276) 0), (.int (3) 0), (.int (0) 0), (.int (0) 0), (.int (3) 0), (.ref 402), (.bool true), (.int (181) 0), (.ref 403), .none, (.ref 404), (.ref 405), (.ref 406), (.int (775) 0), (.int (276) 0), (.str (Str.ofString "/claim/cut.py") 776)], #[]⟩) ::
     (nat_lit 408, ⟨(.type "function"), none, .func { name := (Str.ofString "settled"), qualname := (Str.ofString "settled"), params := ?a60, body := .stmts ?b60, scope := ?s60, globals := 3, closure := [], defaults := .none, kwdefaults := .none, doc := .none, pyModule := (.str (Str.ofString "basicplus.arith") 760), annotations := none, code := (.ref 407), closureTuple := .none, builtins := 0 }, #[]⟩) ::
     (nat_lit 463, ⟨(.type "code"), none, .fields #[(.str (Str.ofString "negated") 850), (.str (Str.ofString "negated") 851), (.str (Str.ofString "/claim/cut.py") 852), (.int (321) 0), (.int (3) 0), (.int (0) 0), (.int (0) 0), (.int (3) 0), (.ref 458), (.bool true), (.int (181) 0), (.ref 459), .none, (.ref 460), (.ref 461), (.ref 462), (.int (856) 0), (.int (321) 0), (.str (Str.ofString "/claim/cut.py") 857)], #[]⟩) ::
     (nat_lit 464, ⟨(.type "function"), none, .func { name := (Str.ofString "negated"), qualname := (Str.ofString "negated"), params := ?a68, body := .stmts ?b68, scope := ?s68, globals := 3, closure := [], defaults := .none, kwdefaults := .none, doc := .none, pyModule := (.str (Str.ofString "basicplus.arith") 760), annotations := none, code := (.ref 463), closureTuple := .none, builtins := 0 }, #[]⟩) ::
     (nat_lit 498, ⟨(.type "code"), none, .fields #[(.str (Str.ofString "__init__") 901), (.str (Str.ofString "Control.__init__") 902), (.str (Str.ofString "/claim/cut.py") 903), (.int (343) 0), (.int (2) 0), (.int (0) 0), (.int (0) 0), (.int (3) 0), (.ref 493), (.bool true), (.int (181) 0), (.ref 494), .none, (.ref 495), (.ref 496), (.ref 497), (.int (906) 0), (.int (343) 0), (.str (Str.ofString "/claim/cut.py") 907)], #[]⟩) ::
     (nat_lit 499, ⟨(.type "function"), none, .func { name := (Str.ofString "__init__"), qualname := (Str.ofString "Control.__init__"), params := ?a73x0, body := .stmts ?b73x0, scope := ?s73x0, globals := 3, closure := [], defaults := .none, kwdefaults := .none, doc := .none, pyModule := (.str (Str.ofString "basicplus.control") 887), annotations := none, code := (.ref 498), closureTuple := .none, builtins := 0 }, #[]⟩) ::
     (nat_lit 500, ⟨(.type "tuple"), none, .seq #[(.str (Str.ofString "failed_at") 909), (.str (Str.ofString "most") 910), (.str (Str.ofString "pile") 911)] 0, #[]⟩) ::
     (nat_lit 501, ⟨(.type "dict"), none, .dict (List.toArray (⟨PyData.keyHash P (Str.ofString "__module__"), (.str (Str.ofString "__module__") 896), (.str (Str.ofString "basicplus.control") 887)⟩ :: ⟨PyData.keyHash P (Str.ofString "__firstlineno__"), (.str (Str.ofString "__firstlineno__") 900), (.int (341) 899)⟩ :: ⟨PyData.keyHash P (Str.ofString "__init__"), (.str (Str.ofString "__init__") 908), (.ref 499)⟩ :: ⟨PyData.keyHash P (Str.ofString "__static_attributes__"), (.str (Str.ofString "__static_attributes__") 912), (.ref 500)⟩ :: ⟨PyData.keyHash P (Str.ofString "__dict__"), (.str (Str.ofString "__dict__") 914), (.ref 503)⟩ :: ⟨PyData.keyHash P (Str.ofString "__weakref__"), (.str (Str.ofString "__weakref__") 916), (.ref 504)⟩ :: ⟨PyData.keyHash P (Str.ofString "__doc__"), (.str (Str.ofString "__doc__") 917), .none⟩ :: [])) 4, #[]⟩) ::
     (nat_lit 502, ⟨(.type "type"), none, .cls { name := (Str.ofString "Control"), bases := [(.type "object")], mro := [(.ref 502), (.type "object")], ns := 501, qualname := (Str.ofString "Control"), hasDict := true, slotNames := [], subclasses := [], abstract := false, collection := none, hasDel := false }, #[none, none, (some (.str (Str.ofString "Control") 889)), (some (.str (Str.ofString "Control") 897)), (some (.builtin "object.__new__")), (some (.bool true))]⟩) ::
     (nat_lit 503, ⟨(.type "getset_descriptor"), none, .fields #[(.str (Str.ofString "__dict__") 913), (.ref 502), (.builtin "function.__dict__"), (.builtin "function.__dict__#set")], #[]⟩) ::
     (nat_lit 504, ⟨(.type "getset_descriptor"), none, .fields #[(.str (Str.ofString "__weakref__") 915), (.ref 502), (.builtin "ExceptionGroup.__weakref__"), .none], #[]⟩) ::
     (nat_lit 519, ⟨(.type "code"), none, .fields #[(.str (Str.ofString "field_text") 929), (.str (Str.ofString "field_text") 930), (.str (Str.ofString "/claim/cut.py") 931), (.int (350) 0), (.int (2) 0), (.int (0) 0), (.int (0) 0), (.int (3) 0), (.ref 514), (.bool true), (.int (181) 0), (.ref 515), .none, (.ref 516), (.ref 517), (.ref 518), (.int (937) 0), (.int (350) 0), (.str (Str.ofString "/claim/cut.py") 938)], #[]⟩) ::
     (nat_lit 520, ⟨(.type "function"), none, .func { name := (Str.ofString "field_text"), qualname := (Str.ofString "field_text"), params := ?a76, body := .stmts ?b76, scope := ?s76, globals := 3, closure := [], defaults := .none, kwdefaults := .none, doc := .none, pyModule := (.str (Str.ofString "basicplus.files") 927), annotations := none, code := (.ref 519), closureTuple := .none, builtins := 0 }, #[]⟩) ::
     (nat_lit 526, ⟨(.type "code"), none, .fields #[(.str (Str.ofString "no_field") 940), (.str (Str.ofString "no_field") 941), (.str (Str.ofString "/claim/cut.py") 942), (.int (355) 0), (.int (2) 0), (.int (0) 0), (.int (0) 0), (.int (3) 0), (.ref 521), (.bool true), (.int (181) 0), (.ref 522), .none, (.ref 523), (.ref 524), (.ref 525), (.int (945) 0), (.int (355) 0), (.str (Str.ofString "/claim/cut.py") 946)], #[]⟩) ::
     (nat_lit 527, ⟨(.type "function"), none, .func { name := (Str.ofString "no_field"), qualname := (Str.ofString "no_field"), params := ?a77, body := .stmts ?b77, scope := ?s77, globals := 3, closure := [], defaults := .none, kwdefaults := .none, doc := .none, pyModule := (.str (Str.ofString "basicplus.files") 927), annotations := none, code := (.ref 526), closureTuple := .none, builtins := 0 }, #[]⟩) ::
     (nat_lit 547, ⟨(.type "code"), none, .fields #[(.str (Str.ofString "variable_value") 970), (.str (Str.ofString "variable_value") 971), (.str (Str.ofString "/claim/cut.py") 972), (.int (369) 0), (.int (2) 0), (.int (0) 0), (.int (0) 0), (.int (3) 0), (.ref 542), (.bool true), (.int (181) 0), (.ref 543), .none, (.ref 544), (.ref 545), (.ref 546), (.int (976) 0), (.int (369) 0), (.str (Str.ofString "/claim/cut.py") 977)], #[]⟩) ::
     (nat_lit 548, ⟨(.type "function"), none, .func { name := (Str.ofString "variable_value"), qualname := (Str.ofString "variable_value"), params := ?a81, body := .stmts ?b81, scope := ?s81, globals := 3, closure := [], defaults := .none, kwdefaults := .none, doc := .none, pyModule := (.str (Str.ofString "basicplus.asked") 968), annotations := none, code := (.ref 547), closureTuple := .none, builtins := 0 }, #[]⟩) ::
     (nat_lit 554, ⟨(.type "code"), none, .fields #[(.str (Str.ofString "give_variable") 979), (.str (Str.ofString "give_variable") 980), (.str (Str.ofString "/claim/cut.py") 981), (.int (376) 0), (.int (3) 0), (.int (0) 0), (.int (0) 0), (.int (3) 0), (.ref 549), (.bool true), (.int (181) 0), (.ref 550), .none, (.ref 551), (.ref 552), (.ref 553), (.int (985) 0), (.int (376) 0), (.str (Str.ofString "/claim/cut.py") 986)], #[]⟩) ::
     (nat_lit 555, ⟨(.type "function"), none, .func { name := (Str.ofString "give_variable"), qualname := (Str.ofString "give_variable"), params := ?a82, body := .stmts ?b82, scope := ?s82, globals := 3, closure := [], defaults := .none, kwdefaults := .none, doc := .none, pyModule := (.str (Str.ofString "basicplus.asked") 968), annotations := none, code := (.ref 554), closureTuple := .none, builtins := 0 }, #[]⟩) ::
     (nat_lit 566, ⟨(.type "code"), none, .fields #[(.str (Str.ofString "parts_of_tree") 996), (.str (Str.ofString "parts_of_tree") 997), (.str (Str.ofString "/claim/cut.py") 998), (.int (405) 0), (.int (1) 0), (.int (0) 0), (.int (0) 0), (.int (3) 0), (.ref 561), (.bool true), (.int (181) 0), (.ref 562), .none, (.ref 563), (.ref 564), (.ref 565), (.int (1000) 0), (.int (405) 0), (.str (Str.ofString "/claim/cut.py") 1001)], #[]⟩) ::
     (nat_lit 567, ⟨(.type "function"), none, .func { name := (Str.ofString "parts_of_tree"), qualname := (Str.ofString "parts_of_tree"), params := ?a85, body := .stmts ?b85, scope := ?s85, globals := 3, closure := [], defaults := .none, kwdefaults := .none, doc := .none, pyModule := (.str (Str.ofString "basicplus.exprread") 994), annotations := none, code := (.ref 566), closureTuple := .none, builtins := 0 }, #[]⟩) ::
     (nat_lit 568, ⟨(.type "tuple"), none, .seq #[(.str (Str.ofString "AND") 1005), (.str (Str.ofString "OR") 1006), (.str (Str.ofString "XOR") 1007), (.str (Str.ofString "EQV") 1008), (.str (Str.ofString "IMP") 1009)] 0, #[]⟩) ::
     (nat_lit 569, ⟨(.type "tuple"), none, .seq #[(.str (Str.ofString "=") 1011), (.str (Str.ofString "<>") 1012), (.str (Str.ofString "<") 1013), (.str (Str.ofString ">") 1014), (.str (Str.ofString "<=") 1015), (.str (Str.ofString ">=") 1016)] 0, #[]⟩) ::
     (nat_lit 601, ⟨(.type "code"), none, .fields #[(.str (Str.ofString "worth_of_one") 1049), (.str (Str.ofString "worth_of_one") 1050), (.str (Str.ofString "/claim/cut.py") 1051), (.int (439) 0), (.int (4) 0), (.int (0) 0), (.int (0) 0), (.int (3) 0), (.ref 596), (.bool true), (.int (181) 0), (.ref 597), .none, (.ref 598), (.ref 599), (.ref 600), (.int (1056) 0), (.int (439) 0), (.str (Str.ofString "/claim/cut.py") 1057)], #[]⟩) ::
     (nat_lit 602, ⟨(.type "function"), none, .func { name := (Str.ofString "worth_of_one"), qualname := (Str.ofString "worth_of_one"), params := ?a93, body := .stmts ?b93, scope := ?s93, globals := 3, closure := [], defaults := .none, kwdefaults := .none, doc := .none, pyModule := (.str (Str.ofString "basicplus.worth") 1003), annotations := none, code := (.ref 601), closureTuple := .none, builtins := 0 }, #[]⟩) ::
     (nat_lit 608, ⟨(.type "code"), none, .fields #[(.str (Str.ofString "worth_of_leaf") 1059), (.str (Str.ofString "worth_of_leaf") 1060), (.str (Str.ofString "/claim/cut.py") 1061), (.int (443) 0), (.int (3) 0), (.int (0) 0), (.int (0) 0), (.int (3) 0), (.ref 603), (.bool true), (.int (181) 0), (.ref 604), .none, (.ref 605), (.ref 606), (.ref 607), (.int (1067) 0), (.int (443) 0), (.str (Str.ofString "/claim/cut.py") 1068)], #[]⟩) ::
     (nat_lit 609, ⟨(.type "function"), none, .func { name := (Str.ofString "worth_of_leaf"), qualname := (Str.ofString "worth_of_leaf"), params := ?a94, body := .stmts ?b94, scope := ?s94, globals := 3, closure := [], defaults := .none, kwdefaults := .none, doc := .none, pyModule := (.str (Str.ofString "basicplus.worth") 1003), annotations := none, code := (.ref 608), closureTuple := .none, builtins := 0 }, #[]⟩) ::
     (nat_lit 615, ⟨(.type "code"), none, .fields #[(.str (Str.ofString "worth_of_tree") 1070), (.str (Str.ofString "worth_of_tree") 1071), (.str (Str.ofString "/claim/cut.py") 1072), (.int (448) 0), (.int (3) 0), (.int (0) 0), (.int (0) 0), (.int (3) 0), (.ref 610), (.bool true), (.int (181) 0), (.ref 611), .none, (.ref 612), (.ref 613), (.ref 614), (.int (1077) 0), (.int (448) 0), (.str (Str.ofString "/claim/cut.py") 1078)], #[]⟩) ::
     (nat_lit 616, ⟨(.type "function"), none, .func { name := (Str.ofString "worth_of_tree"), qualname := (Str.ofString "worth_of_tree"), params := ?a95, body := .stmts ?b95, scope := ?s95, globals := 3, closure := [], defaults := .none, kwdefaults := .none, doc := .none, pyModule := (.str (Str.ofString "basicplus.worth") 1003), annotations := none, code := (.ref 615), closureTuple := .none, builtins := 0 }, #[]⟩) ::
     (nat_lit 620, ⟨(.type "code"), none, .fields #[(.str (Str.ofString "worth") 1080), (.str (Str.ofString "worth") 1081), (.str (Str.ofString "/claim/cut.py") 1082), (.int (461) 0), (.int (2) 0), (.int (0) 0), (.int (0) 0), (.int (3) 0), (.ref 617), (.bool true), (.int (181) 0), (.ref 618), .none, .none, .none, (.ref 619), (.int (1083) 0), (.int (461) 0), (.str (Str.ofString "/claim/cut.py") 1084)], #[]⟩) ::
     (nat_lit 621, ⟨(.type "function"), none, .func { name := (Str.ofString "worth"), qualname := (Str.ofString "worth"), params := ?a96, body := .stmts ?b96, scope := ?s96, globals := 3, closure := [], defaults := .none, kwdefaults := .none, doc := .none, pyModule := (.str (Str.ofString "basicplus.worth") 1003), annotations := none, code := (.ref 620), closureTuple := .none, builtins := 0 }, #[]⟩) ::
     (nat_lit 634, ⟨(.type "code"), none, .fields #[(.str (Str.ofString "__init__") 1103), (.str (Str.ofString "WorkRun.__init__") 1104), (.str (Str.ofString "/claim/cut.py") 1105), (.int (479) 0), (.int (4) 0), (.int (0) 0), (.int (0) 0), (.int (3) 0), (.ref 629), (.bool true), (.int (181) 0), (.ref 630), .none, (.ref 631), (.ref 632), (.ref 633), (.int (1110) 0), (.int (479) 0), (.str (Str.ofString "/claim/cut.py") 1111)], #[]⟩) ::
     (nat_lit 635, ⟨(.type "function"), none, .func { name := (Str.ofString "__init__"), qualname := (Str.ofString "WorkRun.__init__"), params := ?a100x0, body := .stmts ?b100x0, scope := ?s100x0, globals := 3, closure := [], defaults := .none, kwdefaults := .none, doc := .none, pyModule := (.str (Str.ofString "basicplus.workrun") 1087), annotations := none, code := (.ref 634), closureTuple := .none, builtins := 0 }, #[]⟩) ::
     (nat_lit 641, ⟨(.type "code"), none, .fields #[(.str (Str.ofString "worth") 1113), (.str (Str.ofString "WorkRun.worth") 1114), (.str (Str.ofString "/claim/cut.py") 1115), (.int (488) 0), (.int (2) 0), (.int (0) 0), (.int (0) 0), (.int (3) 0), (.ref 636), (.bool true), (.int (181) 0), (.ref 637), .none, (.ref 638), (.ref 639), (.ref 640), (.int (1118) 0), (.int (488) 0), (.str (Str.ofString "/claim/cut.py") 1119)], #[]⟩) ::
     (nat_lit 642, ⟨(.type "function"), none, .func { name := (Str.ofString "worth"), qualname := (Str.ofString "WorkRun.worth"), params := ?a100x1, body := .stmts ?b100x1, scope := ?s100x1, globals := 3, closure := [], defaults := .none, kwdefaults := .none, doc := .none, pyModule := (.str (Str.ofString "basicplus.workrun") 1087), annotations := none, code := (.ref 641), closureTuple := .none, builtins := 0 }, #[]⟩) ::
     (nat_lit 648, ⟨(.type "code"), none, .fields #[(.str (Str.ofString "whole") 1121), (.str (Str.ofString "WorkRun.whole") 1122), (.str (Str.ofString "/claim/cut.py") 1123), (.int (491) 0), (.int (2) 0), (.int (0) 0), (.int (0) 0), (.int (3) 0), (.ref 643), (.bool true), (.int (181) 0), (.ref 644), .none, (.ref 645), (.ref 646), (.ref 647), (.int (1126) 0), (.int (491) 0), (.str (Str.ofString "/claim/cut.py") 1127)], #[]⟩) ::
     (nat_lit 649, ⟨(.type "function"), none, .func { name := (Str.ofString "whole"), qualname := (Str.ofString "WorkRun.whole"), params := ?a100x2, body := .stmts ?b100x2, scope := ?s100x2, globals := 3, closure := [], defaults := .none, kwdefaults := .none, doc := .none, pyModule := (.str (Str.ofString "basicplus.workrun") 1087), annotations := none, code := (.ref 648), closureTuple := .none, builtins := 0 }, #[]⟩) ::
     (nat_lit 655, ⟨(.type "code"), none, .fields #[(.str (Str.ofString "value_of_name") 1129), (.str (Str.ofString "WorkRun.value_of_name") 1130), (.str (Str.ofString "/claim/cut.py") 1131), (.int (494) 0), (.int (2) 0), (.int (0) 0), (.int (0) 0), (.int (3) 0), (.ref 650), (.bool true), (.int (181) 0), (.ref 651), .none, (.ref 652), (.ref 653), (.ref 654), (.int (1134) 0), (.int (494) 0), (.str (Str.ofString "/claim/cut.py") 1135)], #[]⟩) ::
     (nat_lit 656, ⟨(.type "function"), none, .func { name := (Str.ofString "value_of_name"), qualname := (Str.ofString "WorkRun.value_of_name"), params := ?a100x3, body := .stmts ?b100x3, scope := ?s100x3, globals := 3, closure := [], defaults := .none, kwdefaults := .none, doc := .none, pyModule := (.str (Str.ofString "basicplus.workrun") 1087), annotations := none, code := (.ref 655), closureTuple := .none, builtins := 0 }, #[]⟩) ::
     (nat_lit 660, ⟨(.type "code"), none, .fields #[(.str (Str.ofString "item_of") 1137), (.str (Str.ofString "WorkRun.item_of") 1138), (.str (Str.ofString "/claim/cut.py") 1139), (.int (498) 0), (.int (3) 0), (.int (0) 0), (.int (0) 0), (.int (3) 0), (.ref 657), (.bool true), (.int (181) 0), (.ref 658), .none, .none, .none, (.ref 659), (.int (1140) 0), (.int (498) 0), (.str (Str.ofString "/claim/cut.py") 1141)], #[]⟩) ::
     (nat_lit 661, ⟨(.type "function"), none, .func { name := (Str.ofString "item_of"), qualname := (Str.ofString "WorkRun.item_of"), params := ?a100x4, body := .stmts ?b100x4, scope := ?s100x4, globals := 3, closure := [], defaults := .none, kwdefaults := .none, doc := .none, pyModule := (.str (Str.ofString "basicplus.workrun") 1087), annotations := none, code := (.ref 660), closureTuple := .none, builtins := 0 }, #[]⟩) ::
     (nat_lit 667, ⟨(.type "code"), none, .fields #[(.str (Str.ofString "call") 1143), (.str (Str.ofString "WorkRun.call") 1144), (.str (Str.ofString "/claim/cut.py") 1145), (.int (503) 0), (.int (3) 0), (.int (0) 0), (.int (0) 0), (.int (3) 0), (.ref 662), (.bool true), (.int (181) 0), (.ref 663), .none, (.ref 664), (.ref 665), (.ref 666), (.int (1149) 0), (.int (503) 0), (.str (Str.ofString "/claim/cut.py") 1150)], #[]⟩) ::
     (nat_lit 668, ⟨(.type "function"), none, .func { name := (Str.ofString "call"), qualname := (Str.ofString "WorkRun.call"), params := ?a100x5, body := .stmts ?b100x5, scope := ?s100x5, globals := 3, closure := [], defaults := .none, kwdefaults := .none, doc := .none, pyModule := (.str (Str.ofString "basicplus.workrun") 1087), annotations := none, code := (.ref 667), closureTuple := .none, builtins := 0 }, #[]⟩) ::
     (nat_lit 674, ⟨(.type "code"), none, .fields #[(.str (Str.ofString "fn") 1152), (.str (Str.ofString "WorkRun.fn") 1153), (.str (Str.ofString "/claim/cut.py") 1154), (.int (506) 0), (.int (3) 0), (.int (0) 0), (.int (0) 0), (.int (3) 0), (.ref 669), (.bool true), (.int (181) 0), (.ref 670), .none, (.ref 671), (.ref 672), (.ref 673), (.int (1158) 0), (.int (506) 0), (.str (Str.ofString "/claim/cut.py") 1159)], #[]⟩) ::
     (nat_lit 675, ⟨(.type "function"), none, .func { name := (Str.ofString "fn"), qualname := (Str.ofString "WorkRun.fn"), params := ?a100x6, body := .stmts ?b100x6, scope := ?s100x6, globals := 3, closure := [], defaults := .none, kwdefaults := .none, doc := .none, pyModule := (.str (Str.ofString "basicplus.workrun") 1087), annotations := none, code := (.ref 674), closureTuple := .none, builtins := 0 }, #[]⟩) ::
     (nat_lit 681, ⟨(.type "code"), none, .fields #[(.str (Str.ofString "rows_worth") 1161), (.str (Str.ofString "WorkRun.rows_worth") 1162), (.str (Str.ofString "/claim/cut.py") 1163), (.int (511) 0), (.int (3) 0), (.int (0) 0), (.int (0) 0), (.int (3) 0), (.ref 676), (.bool true), (.int (181) 0), (.ref 677), .none, (.ref 678), (.ref 679), (.ref 680), (.int (1167) 0), (.int (511) 0), (.str (Str.ofString "/claim/cut.py") 1168)], #[]⟩) ::
     (nat_lit 682, ⟨(.type "function"), none, .func { name := (Str.ofString "rows_worth"), qualname := (Str.ofString "WorkRun.rows_worth"), params := ?a100x7, body := .stmts ?b100x7, scope := ?s100x7, globals := 3, closure := [], defaults := .none, kwdefaults := .none, doc := .none, pyModule := (.str (Str.ofString "basicplus.workrun") 1087), annotations := none, code := (.ref 681), closureTuple := .none, builtins := 0 }, #[]⟩) ::
     (nat_lit 688, ⟨(.type "code"), none, .fields #[(.str (Str.ofString "answered") 1170), (.str (Str.ofString "WorkRun.answered") 1171), (.str (Str.ofString "/claim/cut.py") 1172), (.int (514) 0), (.int (3) 0), (.int (0) 0), (.int (0) 0), (.int (3) 0), (.ref 683), (.bool true), (.int (181) 0), (.ref 684), .none, (.ref 685), (.ref 686), (.ref 687), (.int (1176) 0), (.int (514) 0), (.str (Str.ofString "/claim/cut.py") 1177)], #[]⟩) ::
     (nat_lit 689, ⟨(.type "function"), none, .func { name := (Str.ofString "answered"), qualname := (Str.ofString "WorkRun.answered"), params := ?a100x8, body := .stmts ?b100x8, scope := ?s100x8, globals := 3, closure := [], defaults := .none, kwdefaults := .none, doc := .none, pyModule := (.str (Str.ofString "basicplus.workrun") 1087), annotations := none, code := (.ref 688), closureTuple := .none, builtins := 0 }, #[]⟩) ::
     (nat_lit 695, ⟨(.type "code"), none, .fields #[(.str (Str.ofString "assign") 1179), (.str (Str.ofString "WorkRun.assign") 1180), (.str (Str.ofString "/claim/cut.py") 1181), (.int (520) 0), (.int (3) 0), (.int (0) 0), (.int (0) 0), (.int (3) 0), (.ref 690), (.bool true), (.int (181) 0), (.ref 691), .none, (.ref 692), (.ref 693), (.ref 694), (.int (1185) 0), (.int (520) 0), (.str (Str.ofString "/claim/cut.py") 1186)], #[]⟩) ::
     (nat_lit 696, ⟨(.type "function"), none, .func { name := (Str.ofString "assign"), qualname := (Str.ofString "WorkRun.assign"), params := ?a100x9, body := .stmts ?b100x9, scope := ?s100x9, globals := 3, closure := [], defaults := .none, kwdefaults := .none, doc := .none, pyModule := (.str (Str.ofString "basicplus.workrun") 1087), annotations := none, code := (.ref 695), closureTuple := .none, builtins := 0 }, #[]⟩) ::
     (nat_lit 702, ⟨(.type "code"), none, .fields #[(.str (Str.ofString "store") 1188), (.str (Str.ofString "WorkRun.store") 1189), (.str (Str.ofString "/claim/cut.py") 1190), (.int (523) 0), (.int (3) 0), (.int (0) 0), (.int (0) 0), (.int (3) 0), (.ref 697), (.bool true), (.int (181) 0), (.ref 698), .none, (.ref 699), (.ref 700), (.ref 701), (.int (1194) 0), (.int (523) 0), (.str (Str.ofString "/claim/cut.py") 1195)], #[]⟩) ::
     (nat_lit 703, ⟨(.type "function"), none, .func { name := (Str.ofString "store"), qualname := (Str.ofString "WorkRun.store"), params := ?a100x10, body := .stmts ?b100x10, scope := ?s100x10, globals := 3, closure := [], defaults := .none, kwdefaults := .none, doc := .none, pyModule := (.str (Str.ofString "basicplus.workrun") 1087), annotations := none, code := (.ref 702), closureTuple := .none, builtins := 0 }, #[]⟩) ::
     (nat_lit 707, ⟨(.type "code"), none, .fields #[(.str (Str.ofString "put") 1197), (.str (Str.ofString "WorkRun.put") 1198), (.str (Str.ofString "/claim/cut.py") 1199), (.int (526) 0), (.int (4) 0), (.int (0) 0), (.int (0) 0), (.int (3) 0), (.ref 704), (.bool true), (.int (181) 0), (.ref 705), .none, .none, .none, (.ref 706), (.int (1200) 0), (.int (526) 0), (.str (Str.ofString "/claim/cut.py") 1201)], #[]⟩) ::
     (nat_lit 708, ⟨(.type "function"), none, .func { name := (Str.ofString "put"), qualname := (Str.ofString "WorkRun.put"), params := ?a100x11, body := .stmts ?b100x11, scope := ?s100x11, globals := 3, closure := [], defaults := .none, kwdefaults := .none, doc := .none, pyModule := (.str (Str.ofString "basicplus.workrun") 1087), annotations := none, code := (.ref 707), closureTuple := .none, builtins := 0 }, #[]⟩) ::
     (nat_lit 714, ⟨(.type "code"), none, .fields #[(.str (Str.ofString "next_data") 1203), (.str (Str.ofString "WorkRun.next_data") 1204), (.str (Str.ofString "/claim/cut.py") 1205), (.int (529) 0), (.int (2) 0), (.int (0) 0), (.int (0) 0), (.int (3) 0), (.ref 709), (.bool true), (.int (181) 0), (.ref 710), .none, (.ref 711), (.ref 712), (.ref 713), (.int (1208) 0), (.int (529) 0), (.str (Str.ofString "/claim/cut.py") 1209)], #[]⟩) ::
     (nat_lit 715, ⟨(.type "function"), none, .func { name := (Str.ofString "next_data"), qualname := (Str.ofString "WorkRun.next_data"), params := ?a100x12, body := .stmts ?b100x12, scope := ?s100x12, globals := 3, closure := [], defaults := .none, kwdefaults := .none, doc := .none, pyModule := (.str (Str.ofString "basicplus.workrun") 1087), annotations := none, code := (.ref 714), closureTuple := .none, builtins := 0 }, #[]⟩) ::
     (nat_lit 721, ⟨(.type "code"), none, .fields #[(.str (Str.ofString "number_told") 1211), (.str (Str.ofString "WorkRun.number_told") 1212), (.str (Str.ofString "/claim/cut.py") 1213), (.int (532) 0), (.int (2) 0), (.int (0) 0), (.int (0) 0), (.int (3) 0), (.ref 716), (.bool true), (.int (181) 0), (.ref 717), .none, (.ref 718), (.ref 719), (.ref 720), (.int (1216) 0), (.int (532) 0), (.str (Str.ofString "/claim/cut.py") 1217)], #[]⟩) ::
     (nat_lit 722, ⟨(.type "function"), none, .func { name := (Str.ofString "number_told"), qualname := (Str.ofString "WorkRun.number_told"), params := ?a100x13, body := .stmts ?b100x13, scope := ?s100x13, globals := 3, closure := [], defaults := .none, kwdefaults := .none, doc := .none, pyModule := (.str (Str.ofString "basicplus.workrun") 1087), annotations := none, code := (.ref 721), closureTuple := .none, builtins := 0 }, #[]⟩) ::
     (nat_lit 728, ⟨(.type "code"), none, .fields #[(.str (Str.ofString "plus") 1219), (.str (Str.ofString "WorkRun.plus") 1220), (.str (Str.ofString "/claim/cut.py") 1221), (.int (535) 0), (.int (3) 0), (.int (0) 0), (.int (0) 0), (.int (3) 0), (.ref 723), (.bool true), (.int (181) 0), (.ref 724), .none, (.ref 725), (.ref 726), (.ref 727), (.int (1225) 0), (.int (535) 0), (.str (Str.ofString "/claim/cut.py") 1226)], #[]⟩) ::
     (nat_lit 729, ⟨(.type "function"), none, .func { name := (Str.ofString "plus"), qualname := (Str.ofString "WorkRun.plus"), params := ?a100x14, body := .stmts ?b100x14, scope := ?s100x14, globals := 3, closure := [], defaults := .none, kwdefaults := .none, doc := .none, pyModule := (.str (Str.ofString "basicplus.workrun") 1087), annotations := none, code := (.ref 728), closureTuple := .none, builtins := 0 }, #[]⟩) ::
     (nat_lit 730, ⟨(.type "tuple"), none, .seq #[(.str (Str.ofString "answers") 1228), (.str (Str.ofString "asked") 1229), (.str (Str.ofString "bits") 1230), (.str (Str.ofString "control") 1231), (.str (Str.ofString "digits") 1232), (.str (Str.ofString "flat") 1233), (.str (Str.ofString "world") 1234)] 0, #[]⟩) ::
     (nat_lit 731, ⟨(.type "dict"), none, .dict (List.toArray (⟨PyData.keyHash P (Str.ofString "__module__"), (.str (Str.ofString "__module__") 1098), (.str (Str.ofString "basicplus.workrun") 1087)⟩ :: ⟨PyData.keyHash P (Str.ofString "__firstlineno__"), (.str (Str.ofString "__firstlineno__") 1102), (.int (477) 1101)⟩ :: ⟨PyData.keyHash P (Str.ofString "__init__"), (.str (Str.ofString "__init__") 1112), (.ref 635)⟩ :: ⟨PyData.keyHash P (Str.ofString "worth"), (.str (Str.ofString "worth") 1120), (.ref 642)⟩ :: ⟨PyData.keyHash P (Str.ofString "whole"), (.str (Str.ofString "whole") 1128), (.ref 649)⟩ :: ⟨PyData.keyHash P (Str.ofString "value_of_name"), (.str (Str.ofString "value_of_name") 1136), (.ref 656)⟩ :: ⟨PyData.keyHash P (Str.ofString "item_of"), (.str (Str.ofString "item_of") 1142), (.ref 661)⟩ :: ⟨PyData.keyHash P (Str.ofString "call"), (.str (Str.ofString "call") 1151), (.ref 668)⟩ :: ⟨PyData.keyHash P (Str.ofString "fn"), (.str (Str.ofString "fn") 1160), (.ref 675)⟩ :: ⟨PyData.keyHash P (Str.ofString "rows_worth"), (.str (Str.ofString "rows_worth") 1169), (.ref 682)⟩ :: ⟨PyData.keyHash P (Str.ofString "answered"), (.str (Str.ofString "answered") 1178), (.ref 689)⟩ :: ⟨PyData.keyHash P (Str.ofString "assign"), (.str (Str.ofString "assign") 1187), (.ref 696)⟩ :: ⟨PyData.keyHash P (Str.ofString "store"), (.str (Str.ofString "store") 1196), (.ref 703)⟩ :: ⟨PyData.keyHash P (Str.ofString "put"), (.str (Str.ofString "put") 1202), (.ref 708)⟩ :: ⟨PyData.keyHash P (Str.ofString "next_data"), (.str (Str.ofString "next_data") 1210), (.ref 715)⟩ :: ⟨PyData.keyHash P (Str.ofString "number_told"), (.str (Str.ofString "number_told") 1218), (.ref 722)⟩ :: ⟨PyData.keyHash P (Str.ofString "plus"), (.str (Str.ofString "plus") 1227), (.ref 729)⟩ :: ⟨PyData.keyHash P (Str.ofString "__static_attributes__"), (.str (Str.ofString "__static_attributes__") 1235), (.ref 730)⟩ :: ⟨PyData.keyHash P (Str.ofString "__dict__"), (.str (Str.ofString "__dict__") 1237), (.ref 733)⟩ :: ⟨PyData.keyHash P (Str.ofString "__weakref__"), (.str (Str.ofString "__weakref__") 1239), (.ref 734)⟩ :: ⟨PyData.keyHash P (Str.ofString "__doc__"), (.str (Str.ofString "__doc__") 1240), .none⟩ :: [])) 4, #[]⟩) ::
     (nat_lit 732, ⟨(.type "type"), none, .cls { name := (Str.ofString "WorkRun"), bases := [(.type "object")], mro := [(.ref 732), (.type "object")], ns := 731, qualname := (Str.ofString "WorkRun"), hasDict := true, slotNames := [], subclasses := [], abstract := false, collection := none, hasDel := false }, #[none, none, (some (.str (Str.ofString "WorkRun") 1091)), (some (.str (Str.ofString "WorkRun") 1099)), (some (.builtin "object.__new__")), (some (.bool true))]⟩) ::
     (nat_lit 733, ⟨(.type "getset_descriptor"), none, .fields #[(.str (Str.ofString "__dict__") 1236), (.ref 732), (.builtin "function.__dict__"), (.builtin "function.__dict__#set")], #[]⟩) ::
     (nat_lit 734, ⟨(.type "getset_descriptor"), none, .fields #[(.str (Str.ofString "__weakref__") 1238), (.ref 732), (.builtin "ExceptionGroup.__weakref__"), .none], #[]⟩) ::
     (nat_lit 742, ⟨(.type "code"), none, .fields #[(.str (Str.ofString "_law_next") 1245), (.str (Str.ofString "_law_next") 1246), (.str (Str.ofString "/claim/cut.py") 1247), (.int (538) 0), (.int (2) 0), (.int (0) 0), (.int (0) 0), (.int (3) 0), (.ref 737), (.bool true), (.int (181) 0), (.ref 738), .none, (.ref 739), (.ref 740), (.ref 741), (.int (1250) 0), (.int (538) 0), (.str (Str.ofString "/claim/cut.py") 1251)], #[]⟩) ::
     (nat_lit 743, ⟨(.type "function"), none, .func { name := (Str.ofString "_law_next"), qualname := (Str.ofString "_law_next"), params := ?a102, body := .stmts ?b102, scope := ?s102, globals := 3, closure := [], defaults := .none, kwdefaults := .none, doc := .none, pyModule := (.str (Str.ofString "law_pf0018_01") 1243), annotations := none, code := (.ref 742), closureTuple := .none, builtins := 0 }, #[]⟩) ::
     (nat_lit 749, ⟨(.type "code"), none, .fields #[(.str (Str.ofString "_law_sub") 1253), (.str (Str.ofString "_law_sub") 1254), (.str (Str.ofString "/claim/cut.py") 1255), (.int (543) 0), (.int (1) 0), (.int (0) 0), (.int (0) 0), (.int (3) 0), (.ref 744), (.bool true), (.int (181) 0), (.ref 745), .none, (.ref 746), (.ref 747), (.ref 748), (.int (1259) 0), (.int (543) 0), (.str (Str.ofString "/claim/cut.py") 1260)], #[]⟩) ::
     (nat_lit 750, ⟨(.type "function"), none, .func { name := (Str.ofString "_law_sub"), qualname := (Str.ofString "_law_sub"), params := ?a103, body := .stmts ?b103, scope := ?s103, globals := 3, closure := [], defaults := .none, kwdefaults := .none, doc := .none, pyModule := (.str (Str.ofString "law_pf0018_01") 1243), annotations := none, code := (.ref 749), closureTuple := .none, builtins := 0 }, #[]⟩) ::
     (nat_lit 756, ⟨(.type "code"), none, .fields #[(.str (Str.ofString "_law_target") 1262), (.str (Str.ofString "_law_target") 1263), (.str (Str.ofString "/claim/cut.py") 1264), (.int (548) 0), (.int (2) 0), (.int (0) 0), (.int (0) 0), (.int (3) 0), (.ref 751), (.bool true), (.int (181) 0), (.ref 752), .none, (.ref 753), (.ref 754), (.ref 755), (.int (1267) 0), (.int (548) 0), (.str (Str.ofString "/claim/cut.py") 1268)], #[]⟩) ::
     (nat_lit 757, ⟨(.type "function"), none, .func { name := (Str.ofString "_law_target"), qualname := (Str.ofString "_law_target"), params := ?a104, body := .stmts ?b104, scope := ?s104, globals := 3, closure := [], defaults := .none, kwdefaults := .none, doc := .none, pyModule := (.str (Str.ofString "law_pf0018_01") 1243), annotations := none, code := (.ref 756), closureTuple := .none, builtins := 0 }, #[]⟩) ::
     (nat_lit 763, ⟨(.type "code"), none, .fields #[(.str (Str.ofString "_law_order") 1270), (.str (Str.ofString "_law_order") 1271), (.str (Str.ofString "/claim/cut.py") 1272), (.int (552) 0), (.int (1) 0), (.int (0) 0), (.int (0) 0), (.int (3) 0), (.ref 758), (.bool true), (.int (181) 0), (.ref 759), .none, (.ref 760), (.ref 761), (.ref 762), (.int (1282) 0), (.int (552) 0), (.str (Str.ofString "/claim/cut.py") 1283)], #[]⟩) ::
     (nat_lit 764, ⟨(.type "function"), none, .func { name := (Str.ofString "_law_order"), qualname := (Str.ofString "_law_order"), params := ?a105, body := .stmts ?b105, scope := ?s105, globals := 3, closure := [], defaults := .none, kwdefaults := .none, doc := .none, pyModule := (.str (Str.ofString "law_pf0018_01") 1243), annotations := none, code := (.ref 763), closureTuple := .none, builtins := 0 }, #[]⟩) ::
     (nat_lit 770, ⟨(.type "code"), none, .fields #[(.str (Str.ofString "_law_key") 1285), (.str (Str.ofString "_law_key") 1286), (.str (Str.ofString "/claim/cut.py") 1287), (.int (563) 0), (.int (2) 0), (.int (0) 0), (.int (0) 0), (.int (3) 0), (.ref 765), (.bool true), (.int (181) 0), (.ref 766), .none, (.ref 767), (.ref 768), (.ref 769), (.int (1291) 0), (.int (563) 0), (.str (Str.ofString "/claim/cut.py") 1292)], #[]⟩) ::
     (nat_lit 771, ⟨(.type "function"), none, .func { name := (Str.ofString "_law_key"), qualname := (Str.ofString "_law_key"), params := ?a106, body := .stmts ?b106, scope := ?s106, globals := 3, closure := [], defaults := .none, kwdefaults := .none, doc := .none, pyModule := (.str (Str.ofString "law_pf0018_01") 1243), annotations := none, code := (.ref 770), closureTuple := .none, builtins := 0 }, #[]⟩) ::
     (nat_lit 777, ⟨(.type "code"), none, .fields #[(.str (Str.ofString "_law_worth") 1294), (.str (Str.ofString "_law_worth") 1295), (.str (Str.ofString "/claim/cut.py") 1296), (.int (570) 0), (.int (2) 0), (.int (0) 0), (.int (0) 0), (.int (3) 0), (.ref 772), (.bool true), (.int (181) 0), (.ref 773), .none, (.ref 774), (.ref 775), (.ref 776), (.int (1299) 0), (.int (570) 0), (.str (Str.ofString "/claim/cut.py") 1300)], #[]⟩) ::
     (nat_lit 778, ⟨(.type "function"), none, .func { name := (Str.ofString "_law_worth"), qualname := (Str.ofString "_law_worth"), params := ?a107, body := .stmts ?b107, scope := ?s107, globals := 3, closure := [], defaults := .none, kwdefaults := .none, doc := .none, pyModule := (.str (Str.ofString "law_pf0018_01") 1243), annotations := none, code := (.ref 777), closureTuple := .none, builtins := 0 }, #[]⟩) ::
     (nat_lit 784, ⟨(.type "code"), none, .fields #[(.str (Str.ofString "_law_done") 1302), (.str (Str.ofString "_law_done") 1303), (.str (Str.ofString "/claim/cut.py") 1304), (.int (580) 0), (.int (2) 0), (.int (0) 0), (.int (0) 0), (.int (3) 0), (.ref 779), (.bool true), (.int (181) 0), (.ref 780), .none, (.ref 781), (.ref 782), (.ref 783), (.int (1320) 0), (.int (580) 0), (.str (Str.ofString "/claim/cut.py") 1321)], #[]⟩) ::
     (nat_lit 785, ⟨(.type "function"), none, .func { name := (Str.ofString "_law_done"), qualname := (Str.ofString "_law_done"), params := ?a108, body := .stmts ?b108, scope := ?s108, globals := 3, closure := [], defaults := .none, kwdefaults := .none, doc := .none, pyModule := (.str (Str.ofString "law_pf0018_01") 1243), annotations := none, code := (.ref 784), closureTuple := .none, builtins := 0 }, #[]⟩) ::
     (nat_lit 791, ⟨(.type "code"), none, .fields #[(.str (Str.ofString "_law_code") 1323), (.str (Str.ofString "_law_code") 1324), (.str (Str.ofString "/claim/cut.py") 1325), (.int (602) 0), (.int (1) 0), (.int (0) 0), (.int (0) 0), (.int (3) 0), (.ref 786), (.bool true), (.int (181) 0), (.ref 787), .none, (.ref 788), (.ref 789), (.ref 790), (.int (1328) 0), (.int (602) 0), (.str (Str.ofString "/claim/cut.py") 1329)], #[]⟩) ::
     (nat_lit 792, ⟨(.type "function"), none, .func { name := (Str.ofString "_law_code"), qualname := (Str.ofString "_law_code"), params := ?a109, body := .stmts ?b109, scope := ?s109, globals := 3, closure := [], defaults := .none, kwdefaults := .none, doc := .none, pyModule := (.str (Str.ofString "law_pf0018_01") 1243), annotations := none, code := (.ref 791), closureTuple := .none, builtins := 0 }, #[]⟩) ::
     (nat_lit 796, ⟨(.type "code"), none, .fields #[(.str (Str.ofString "_law_stands") 1331), (.str (Str.ofString "_law_stands") 1332), (.str (Str.ofString "/claim/cut.py") 1333), (.int (608) 0), (.int (3) 0), (.int (0) 0), (.int (0) 0), (.int (3) 0), (.ref 793), (.bool true), (.int (181) 0), (.ref 794), .none, .none, .none, (.ref 795), (.int (1334) 0), (.int (608) 0), (.str (Str.ofString "/claim/cut.py") 1335)], #[]⟩) ::
     (nat_lit 797, ⟨(.type "function"), none, .func { name := (Str.ofString "_law_stands"), qualname := (Str.ofString "_law_stands"), params := ?a110, body := .stmts ?b110, scope := ?s110, globals := 3, closure := [], defaults := .none, kwdefaults := .none, doc := .none, pyModule := (.str (Str.ofString "law_pf0018_01") 1243), annotations := none, code := (.ref 796), closureTuple := .none, builtins := 0 }, #[]⟩) ::
     (nat_lit 798, ⟨(.type "tuple"), none, .seq #[] 0, #[]⟩) ::
     (nat_lit 801, ⟨(.type "code"), none, .fields #[(.str (Str.ofString "law") 1337), (.str (Str.ofString "law") 1338), (.str (Str.ofString "/claim/cut.py") 1339), (.int (615) 0), (.int (1) 0), (.int (0) 0), (.int (0) 0), (.int (3) 0), (.ref 798), (.bool true), (.int (181) 0), (.ref 799), .none, .none, .none, (.ref 800), (.int (1340) 0), (.int (615) 0), (.str (Str.ofString "/claim/cut.py") 1341)], #[]⟩) ::
     (nat_lit 802, ⟨(.type "function"), none, .func { name := (Str.ofString "law"), qualname := (Str.ofString "law"), params := ?a111, body := .stmts ?b111, scope := ?s111, globals := 3, closure := [], defaults := .none, kwdefaults := .none, doc := .none, pyModule := (.str (Str.ofString "law_pf0018_01") 1243), annotations := none, code := (.ref 801), closureTuple := .none, builtins := 0 }, #[]⟩) :: [])
  case h => (repeat (refine And.intro (by exact rfl) ?_)); exact rfl
noncomputable def lawSt : Stmt := stm9 111
end
section
open PySem.Calls
noncomputable def po11 : Obj := ⟨(.type "tuple"), none, .seq #[] 0, #[]⟩
noncomputable def po12 : Obj := ⟨.none, none, .fields #[], #[]⟩
noncomputable def po13 : Obj := ⟨(.type "code"), none, .fields #[(.str (Str.ofString "<module>") 182), (.str (Str.ofString "<module>") 183), (.str (Str.ofString "/claim/cut.py") 184), (.int (1) 0), (.int (0) 0), (.int (0) 0), (.int (0) 0), (.int (0) 0), (.ref 11), (.bool false), (.int (181) 0), (.ref 12), .none, .none, .none, .none, (.int (185) 0), (.int (1) 0), (.str (Str.ofString "/claim/cut.py") 186)], #[]⟩
noncomputable def po14 : Obj := ⟨(.type "frame"), none, .plain, #[(some (.ref 13)), (some (.ref 3)), (some (.ref 3)), none, (some (.str (Str.ofString "__main__") 164)), none, (some (.ref 0))]⟩
noncomputable def tree0 (P : Params) : BT := (.node (boot_o_0 P) (.node (boot_o_1 P) (.node (boot_o_3 P) (.node (boot_o_7 P) .nil .nil) (.node po11 .nil .nil)) (.node (boot_o_5 P) (.node (boot_o_9 P) .nil .nil) (.node po13 .nil .nil))) (.node (boot_o_2 P) (.node (boot_o_4 P) (.node (boot_o_8 P) .nil .nil) (.node po12 .nil .nil)) (.node (boot_o_6 P) (.node (boot_o_10 P) .nil .nil) (.node po14 .nil .nil))))
noncomputable abbrev PrT : Program := PySem.Challenge.pw_pf0018_01
noncomputable def q : Program := { PySem.Challenge.pw_pf0018_01 with main := { PySem.Challenge.pw_pf0018_01.main with body := [lawSt] } }
noncomputable def loose : List Str := [Str.ofString "_wall", Str.ofString "MOST_TEXT", Str.ofString "MOST_EXPONENT", Str.ofString "BasicError", Str.ofString "error_codes", Str.ofString "number_of_error", Str.ofString "code_of_error", Str.ofString "kind_of", Str.ofString "kind_of_name", Str.ofString "first_value", Str.ofString "figures_of", Str.ofString "rounded_by", Str.ofString "made", Str.ofString "whole_near", Str.ofString "fits", Str.ofString "whole_of", Str.ofString "decimal_of", Str.ofString "text_of", Str.ofString "checked_text", Str.ofString "suited", Str.ofString "truth", Str.ofString "World", Str.ofString "kind_here", Str.ofString "get_name", Str.ofString "set_name", Str.ofString "kind_of_target", Str.ofString "place_told", Str.ofString "value_at", Str.ofString "put_at", Str.ofString "do_swap", Str.ofString "do_mid", Str.ofString "USUAL_HIGH", Str.ofString "Grid", Str.ofString "count_of", Str.ofString "kind_in", Str.ofString "check_highs", Str.ofString "dim", Str.ofString "grid_of", Str.ofString "place_of", Str.ofString "get_item", Str.ofString "set_item", Str.ofString "ONE", Str.ofString "MOST_POWER", Str.ofString "d_negated", Str.ofString "alike", Str.ofString "d_add", Str.ofString "d_sub", Str.ofString "d_mul", Str.ofString "with_rest", Str.ofString "d_div", Str.ofString "d_compare", Str.ofString "d_power", Str.ofString "square_or_end", Str.ofString "is_whole", Str.ofString "settled", Str.ofString "whole_reckoned", Str.ofString "cut_quotient", Str.ofString "cut_rest", Str.ofString "exponent_of", Str.ofString "whole_power", Str.ofString "raised", Str.ofString "reckoned", Str.ofString "negated", Str.ofString "order_of", Str.ofString "inverted", Str.ofString "logic", Str.ofString "Control", Str.ofString "error_number", Str.ofString "field_text", Str.ofString "no_field", Str.ofString "hide_fields", Str.ofString "lay_fields", Str.ofString "variable_value", Str.ofString "give_variable", Str.ofString "fn_called", Str.ofString "parts_of_tree", Str.ofString "LOGIC", Str.ofString "COMPARISONS", Str.ofString "order_of_texts", Str.ofString "compared", Str.ofString "worth_of_texts", Str.ofString "worth_of_two", Str.ofString "worth_of_one", Str.ofString "worth_of_leaf", Str.ofString "worth_of_tree", Str.ofString "worth", Str.ofString "worth_worth", Str.ofString "MOST_PILE", Str.ofString "WorkRun", Str.ofString "_law_next", Str.ofString "_law_sub", Str.ofString "_law_target", Str.ofString "_law_order", Str.ofString "_law_key", Str.ofString "_law_worth", Str.ofString "_law_done", Str.ofString "_law_code", Str.ofString "_law_stands"]
noncomputable abbrev as : List Addr := [0, 1, 2, 3, 4, 5, 6, 7, 9, 10, 11, 13, 14, 15, 22, 25, 30, 31, 37, 38, 39, 40, 41, 42, 71, 72, 78, 79, 85, 86, 92, 93, 99, 100, 106, 107, 113, 114, 120, 121, 127, 128, 134, 135, 141, 142, 148, 149, 155, 156, 171, 177, 178, 179, 180, 181, 182, 183, 191, 192, 198, 199, 205, 206, 212, 213, 217, 218, 224, 225, 231, 232, 238, 239, 245, 246, 259, 260, 261, 262, 263, 264, 265, 273, 274, 280, 281, 287, 288, 294, 295, 301, 302, 308, 309, 315, 316, 322, 323, 324, 400, 401, 407, 408, 463, 464, 498, 499, 500, 501, 502, 503, 504, 519, 520, 526, 527, 547, 548, 554, 555, 566, 567, 568, 569, 601, 602, 608, 609, 615, 616, 620, 621, 634, 635, 641, 642, 648, 649, 655, 656, 660, 661, 667, 668, 674, 675, 681, 682, 688, 689, 695, 696, 702, 703, 707, 708, 714, 715, 721, 722, 728, 729, 730, 731, 732, 733, 734, 742, 743, 749, 750, 756, 757, 763, 764, 770, 771, 777, 778, 784, 785, 791, 792, 796, 797, 798, 801, 802]
theorem as_eq : ∀ P, as = (K P).map (·.1) := fun _ => by kernel_rfl
noncomputable def env0 : Env := { scope := PrT.main.scope, locals := mainNs, globals := mainNs, cells := [], code := .ref 13, frame := some 14 }
theorem body_eq : behindTheImports PrT = PrT.main.body := by kernel_rfl
noncomputable abbrev st0 (w : World) (os : OsState) : SharedT := ⟨tree0 w.params, 15, (boot_heap w.params).life, Array.mk [], boot_drawn, 187, os⟩
theorem fin0 {tb : String → Option Builtin} {p : Program} {w : World} {n₀ : Nat} {ann : Option Value} {s : Shared} {c : Code} {pos q : Pos} : topRun tb p w n₀ ann 2 s ⟨doneF .next, c, pos, [topFrame q]⟩ = some s := rfl
theorem left_run {p q : Program} {loose : List Str} {Xt : Shared → Bool} {α : Type} {Yf : Shared → α} {Ya : World → α} {N M m₀ k₀ n : Nat} {ann : Option Value} {b : List Stmt} {env : Env} {H₀ : Params → Heap} {d₀ : Drawn} {s0 : World → OsState → SharedT} {x y : Pos} {c : Code}
    (open_ : ∀ w : World, (fencedOpening treeTable p w N).map (fun s => (s.heap, s.gens, s.drawn, s.toks)) = some (H₀ w.params, Array.mk [], d₀, k₀))
    (size : ∀ w : World, ((H₀ w.params).isNs mainGlobals, (H₀ w.params).objs.size, (H₀ w.params).nsMap mainGlobals "__annotations__") = (true, m₀, ann))
    (pre : ∀ w os, topGo treeTable p w m₀ ann n ⟨H₀ w.params, Array.mk [], d₀, k₀, os⟩ (topStub p) = some ((s0 w os).abs, ⟨denote treeTable (.body b env), c, x, [topFrame y]⟩))
    (block : ∀ w os, segRun treeTable p w m₀ ann 1 1 (s0 w os).abs (blockOf b env c x [topFrame y]) = some (.next, (s0 w os).abs, c, x))
    (le : Nat.ble (n + (1 + (M + 2))) N = true)
    (run : ∀ w : World, (fun os => (segRunT treeTable p w m₀ ann 1 M (s0 w os) (piecesOf b env c x [topFrame y])).map fun r => (r.1, r.2.2.1, (staticsOk (importedModules p.main.body) (H₀ w.params) r.2.1.abs.heap && namesBound p r.2.1.abs.heap && gensDone r.2.1.abs && laidKept (H₀ w.params) r.2.1.abs.heap),
      openSeen q loose (importedModules p.main.body) Xt true r.2.1.abs, Yf r.2.1.abs)) = fun _ => some (.next, c, true, openGood q loose, Ya w)) : LeftO p q loose Xt Yf Ya N true := fun w => by
  obtain ⟨⟨h, gs, d, k, os⟩, e, e'⟩ := Option.map_eq_some_iff.mp (open_ w)
  obtain ⟨rfl, rfl, rfl, rfl⟩ : h = H₀ w.params ∧ gs = Array.mk [] ∧ d = d₀ ∧ k = k₀ := by simpa using e'
  obtain ⟨z1, z2, z3⟩ : _ ∧ _ ∧ _ := by simpa only [Prod.mk.injEq] using size w
  obtain ⟨⟨f, s', c', p'⟩, hr, hl⟩ := Option.map_eq_some_iff.mp (congrFun (run w) os)
  dsimp only at hl
  obtain ⟨rfl, rfl, l1, l2, l3⟩ : _ ∧ _ ∧ _ ∧ _ ∧ _ := by simpa only [Prod.mk.injEq] using hl
  have r1 := piece_app (rest := []) (segRun_of hr) (piece_nil fin0)
  rw [List.append_nil] at r1
  have r := topRun_mono (N - (n + (1 + (M + 2)))) _ _ _ _ (go_top (pre w os) (piece_block (block w os) r1))
  rw [show n + (1 + (M + 2)) + (N - (n + (1 + (M + 2)))) = N by have := Nat.le_of_ble_eq_true le; omega] at r
  have t : topFrom treeTable p w N ⟨H₀ w.params, Array.mk [], d, k, os⟩ = some s'.abs := by
    unfold topFrom
    dsimp only
    rw [z1, z2, z3, r]
    show (match staticsOk (importedModules p.main.body) (H₀ w.params) s'.abs.heap && namesBound p s'.abs.heap && gensDone s'.abs && laidKept (H₀ w.params) s'.abs.heap with | true => _ | false => _) = _
    rw [l1]
  unfold openEnds
  rw [e]
  show (topFrom treeTable p w N _).map _ = _
  rw [t]
  exact congrArg some (Prod.ext l2 l3)
noncomputable abbrev Xt0 : Shared → Bool := fun s => xlAt q [] s && recOk (RowW.records PySem.Challenge.rw_pf0018_01.row.toRowW) s
noncomputable abbrev H0 : Hook := kmHook K as as_eq [799]
theorem open0 : ∀ w : World, (fencedOpening treeTable PrT w 12000).map (fun s => (s.heap, s.gens, s.drawn, s.toks)) = some (boot_heap w.params, Array.mk [], boot_drawn, boot_toks) := boot_open (by rfl) (by decide) (fun s => by rfl)
theorem size0 (w : World) : ((boot_heap w.params).isNs mainGlobals, (boot_heap w.params).objs.size, (boot_heap w.params).nsMap mainGlobals "__annotations__") = (true, 11, some (.ref 6)) := by kernel_rfl
theorem pre0 (w : World) : (fun os => topGo treeTable PrT w 11 (some (.ref 6)) 12 ⟨boot_heap w.params, Array.mk [], boot_drawn, boot_toks, os⟩ (topStub PrT)) = fun os => some ((st0 w os).abs, ⟨denote treeTable (.body (behindTheImports PrT) env0), .body (behindTheImports PrT) env0, default, [topFrame default]⟩) := by
  rw [PySem.W.Fast.te15667345088766844465, PySem.W.Fast.te14364793385576792824, PySem.W.Fast.te11892475500146522536]
  kernel_rfl
theorem block0 (w : World) (os : OsState) : segRun treeTable PrT w 11 (some (.ref 6)) 1 1 (st0 w os).abs (blockOf (behindTheImports PrT) env0 (.body (behindTheImports PrT) env0) default [topFrame default]) = some (.next, (st0 w os).abs, .body (behindTheImports PrT) env0, default) := by kernel_rfl
theorem run0 (w : World) : (fun os => (segRunT treeTable PrT w 11 (some (.ref 6)) 1 4600 (st0 w os) (piecesOf (behindTheImports PrT) env0 (.body (behindTheImports PrT) env0) default [topFrame default])).map fun r => (r.1, r.2.2.1, (staticsOk (importedModules PrT.main.body) (boot_heap w.params) r.2.1.abs.heap && namesBound PrT r.2.1.abs.heap && gensDone r.2.1.abs && laidKept (boot_heap w.params) r.2.1.abs.heap), openSeen q loose (importedModules PrT.main.body) Xt0 true r.2.1.abs, H0.obs r.2.1.abs)) = fun _ => some (.next, .body (behindTheImports PrT) env0, true, openGood q loose, H0.val w) := by
  delta piecesOf
  rw [PySem.W.Fast.te10110043849684766642, PySem.W.Fast.te14364793385576792824, PySem.W.Fast.te12563942051412417395, PySem.W.Fast.te4187177175401517315]
  kernel_rfl
end
section
open PySem.Calls
theorem lo0 : LeftO PrT q loose Xt0 H0.obs H0.val 12000 true := left_run open0 size0 (fun w os => congrFun (pre0 w) os) block0 (by decide) run0
theorem hw0 : (PySem.Challenge.rw_pf0018_01.row.toRowW).promised := by w_witness2
theorem ws0 : PySem.Challenge.rw_pf0018_01.wellSaid = true := by rw [PySem.W.Fast.te9446332074065402090]; kernel_rfl
theorem head0 {d : DefRec} {kwd : List (Str × Expr)} (hdef : defOf q PySem.Challenge.rw_pf0018_01.row.name = some (d, kwd)) (hp : PrT.theDef PySem.Challenge.rw_pf0018_01.row.name = some (d.params, d.body, d.scope)) (hk : kwWritten? d.params.kwonlyargs d.params.kw_defaults = some kwd)
  (hc : WalkO q loose (XL q []) (Hook.says (kmHook K as as_eq [799])) PySem.Challenge.rw_pf0018_01.row.toRowW d kwd fun f vs => PySem.call f vs) : PySem.Challenge.rw_pf0018_01.Holds := by
  refine holds_law ws0 fun said => ?_
  exact holds_open (q := q) (loose := loose) (Xt := Xt0) (XP := XL q []) (Yf := Hook.obs H0) (Ya := Hook.val H0) (YP := Hook.says H0) (N := 12000) lo0 (Hook.of H0) (Hook.keeps H0) (fun s e => xl_of s (Bool.and_eq_true_iff.mp e).1) XL.keeps hdef hp hk (fun s e => recFacts_of (Bool.and_eq_true_iff.mp e).2) (by rfl) said (by decide +kernel) ⟨rfl, rfl, rfl, rfl, rfl, by decide +kernel⟩ hw0 hc
end
section
section
variable {prog : Program} {w : World} {A : Around} {E : Value → Shared → Prop} {h : Heap} {g : Array GenState} {d : Drawn} {t : Nat} {os : OsState}
variable {nm q : Str} {C N : Addr} {bs bm : List Value} {hdct : Bool} {sn : List Str} {sub : List Value} {ab : Bool} {col : Option Bool} {dd : Option Addr} {k0 k1 k2 k3 k5 : Option Value} {B newId initId : String}
open PySem
noncomputable abbrev excO (C t : Addr) (di : Option Addr) : Obj := { cls := .ref C, dict := di, data := .fields #[.ref t, .none, .none, .none, .bool false, .none] }
theorem type_call_own (F : ExcBaseFacts B newId initId bm) {mN : Str → Option Value} {rest : List Value} {fi : Addr} {of : Obj} {Q : Fin → Shared → Prop}
    (hC : h.get? C = some (excClassObj nm q C N bs bm hdct sn sub ab col dd k0 k1 k2 k3 k5 newId)) (hn : h.Ns N mN) (hni : mN "__init__" = some (.ref fi)) (hf : h.get? fi = some of) (hfc : of.cls = .type "function")
    (hrest : rest.length ≤ sizeLine)
    (hq : codeAny (model prog w) A (.call (.ref fi) ⟨.ref (h.objs.size + 1) :: rest, []⟩)
      (fun r s' => match r with | .ok (.ret v) => v = .none ∧ Q (.done (.ret (.ref (h.objs.size + 1)))) s' | .ok _ => False | .error e => E e s')
      ⟨(h.push { cls := .type "tuple", data := .seq rest.toArray }).push { cls := .ref C, data := .fields #[.ref h.objs.size, .none, .none, .none, .bool false, .none] }, g, d, t, os⟩) :
    wpAny (model prog w) A (Builtin.«type.__call__» ⟨.ref C :: rest, []⟩) Q E ⟨h, g, d, t, os⟩ := by
  repeat (first | with_reducible refine wpAny_loadPart_at hC ?_ | with_reducible refine wpAny_madeBy_exc hC ?_ | wp_step)
  refine codeAny_call_builtin_code (Code.quiet_builtin _ F.quiet) (wpAny_check_new_sub F hC ?_)
  refine codeAny_exc_new_sub F hC ?_ hrest
  show wpAny _ _ _ _ _ _
  have hC₁ := Heap.get?_push_of_some { cls := .ref C, data := .fields #[.ref h.objs.size, .none, .none, .none, .bool false, .none] } (Heap.get?_push_of_some { cls := .type "tuple", data := .seq rest.toArray } hC)
  have hf₁ := Heap.get?_push_of_some { cls := .ref C, data := .fields #[.ref h.objs.size, .none, .none, .none, .bool false, .none] } (Heap.get?_push_of_some { cls := .type "tuple", data := .seq rest.toArray } hf)
  have hn₁ : ((h.push { cls := .type "tuple", data := .seq rest.toArray }).push { cls := .ref C, data := .fields #[.ref h.objs.size, .none, .none, .none, .bool false, .none] }).Ns N mN :=
    let ⟨o, es, ep, e, r⟩ := hn; ⟨o, es, ep, Heap.get?_push_of_some _ (Heap.get?_push_of_some _ e), r⟩
  have hget : ((h.push { cls := .type "tuple", data := .seq rest.toArray }).push { cls := .ref C, data := .fields #[.ref h.objs.size, .none, .none, .none, .bool false, .none] }).get? (h.objs.size + 1) = some { cls := .ref C, data := .fields #[.ref h.objs.size, .none, .none, .none, .bool false, .none] } := by heap_get
  have hcC : (Value.ref C :: bm).contains (.ref C) = true := by simp
  unfold isInstance
  repeat (first | with_reducible refine wpAny_loadPart_at hget ?_ | (with_reducible refine wpAny_isSubtype_exc hC₁ ?_; rw [hcC]) | wp_step)
  show wpAny _ _ (typeLookup (.ref C) _) _ _ _
  refine wpAny_typeLookup_exc hC₁ hn₁ F.mroIs F.init.lookup ?_
  rw [hni]
  refine wpAny_holding (wpAny_bind (wpAny_bindSpecial_def hf₁ hfc ?_))
  refine wpAny_bind (wpAny_call (codeAny_mono hq ?_))
  rintro (e | f) s' hr
  · exact hr
  · cases f with
    | ret v =>
      obtain ⟨rfl, hr⟩ := hr
      exact wpAny_pure (wpAny_pure hr)
    | _ => exact hr.elim
theorem call_own_init (F : ExcBaseFacts B newId initId bm) {mN : Str → Option Value} {rest : List Value} {fi : Addr} {of : Obj} {Q : Value → Shared → Prop}
    (hC : h.get? C = some (excClassObj nm q C N bs bm hdct sn sub ab col dd k0 k1 k2 k3 k5 newId)) (hn : h.Ns N mN) (hni : mN "__init__" = some (.ref fi)) (hf : h.get? fi = some of) (hfc : of.cls = .type "function")
    (hrest : rest.length ≤ sizeLine)
    (hq : codeAny (model prog w) (A.under (.builtin "type.__call__" ⟨.ref C :: rest, []⟩)) (.call (.ref fi) ⟨.ref (h.objs.size + 1) :: rest, []⟩)
      (fun r s' => match r with | .ok (.ret v) => v = .none ∧ Q (.ref (h.objs.size + 1)) s' | .ok _ => False | .error e => E e s')
      ⟨(h.push { cls := .type "tuple", data := .seq rest.toArray }).push { cls := .ref C, data := .fields #[.ref h.objs.size, .none, .none, .none, .bool false, .none] }, g, d, t, os⟩) :
    wpAny (model prog w) A (call (.ref C) rest) Q E ⟨h, g, d, t, os⟩ := by
  have f1 := tc_lookup
  have f2 := tc_bind (.ref C)
  have hT : (⟨h, g, d, t, os⟩ : Shared).TypeIs (.ref C) "type" := ⟨_, hC, rfl⟩
  refine wpAny_call (codeAny_of_tree ?_)
  show wpAny _ _ (callAny (.ref C) _) _ _ _
  repeat (any_goals (first | assumption | with_reducible refine wpAny_loadPart_at hC ?_ | wp_step))
  refine ⟨rfl, ?_⟩
  refine codeAny_call_builtin_at (Code.quiet_builtin _ (by decide +kernel)) entry_typeCall (wpAny_check_type_call_sub hC ?_)
  exact type_call_own F hC hn hni hf hfc hrest hq
end
end
section
theorem slot_wd_get : Slot "wrapper_descriptor" "__get__" "wrapper_descriptor.__get__" := .of (owner := "wrapper_descriptor") (n := "__get__") (by rw [typeLookup_type, builtinLookup_eq_fast]; kernel_rfl) (by decide +kernel) (by decide +kernel) (by decide +kernel)
  (by first | exact .inl (by decide +kernel) | exact .inr (by decide +kernel)) (by rw [isSubtype_type]; kernel_rfl)
theorem entry_wd_get : entryFor table "wrapper_descriptor.__get__" = some Builtin.«wrapper_descriptor.__get__» := entryFor_of_tree (by kernel_rfl)
theorem args_wd_get (a b c : Value) : argsOk "wrapper_descriptor.__get__" ⟨[a, b, c], []⟩ := by unfold argsOk; kernel_rfl
theorem type_exc_init : typeOf (.builtin "Exception.__init__") = pure (.type "wrapper_descriptor") := by kernel_rfl
theorem owner_exc_init : ".".intercalate ("Exception.__init__".cutAt '.').dropLast = "Exception" := by kernel_rfl
section
variable {prog : Program} {w : World} {A : Around} {E : Value → Shared → Prop} {h : Heap} {g : Array GenState} {d : Drawn} {t : Nat} {os : OsState}
variable {nm q : Str} {C N : Addr} {bs bm : List Value} {hdct : Bool} {sn : List Str} {sub : List Value} {ab : Bool} {col : Option Bool} {dd : Option Addr} {k0 k1 k2 k3 k5 : Option Value}
theorem ifn1 {α : Type} {M : Model} {A : Around} {E : Value → Shared → Prop} {s : Shared} {c : Prop} [Decidable c] {a b : Sem α} {Q : α → Shared → Prop} (h : ¬c) (x : wpAny M A b Q E s) : wpAny M A (if c then a else b) Q E s := by rw [if_neg h]; exact x
theorem super_ga_exc {so x : Addr} {ox : Obj} {l : List Value} {K : Frag} {tk : Tok} {Q : Fin → Shared → Prop}
    (hso : h.get? so = some { cls := .type "super", dict := none, data := .fields #[.ref C, .ref x, .ref C], slots := #[] }) (hno : Looks (model prog w) h (opaqueClassAbove (.ref C)) none)
    (hC : h.get? C = some (excClassObj nm q C N bs bm hdct sn sub ab col dd k0 k1 k2 k3 k5 "Exception.__new__")) (hl : ((Value.ref C :: bm).dropWhile (· != .ref C)).drop 1 = l) (hb : (Value.ref C :: bm).contains (.type "Exception") = true) (X : K.In h)
    (hf : alongIn K "__init__" l = some (some (.builtin "Exception.__init__"))) (hx : h.get? x = some ox) (hxc : ox.cls = .ref C) (hxC : x ≠ C)
    (hq : Q (.done (.ret (.ref h.objs.size))) ⟨h.push { cls := .type "method-wrapper", data := .fields #[.builtin "Exception.__init__", .ref x] }, g, d, t, os⟩) :
    wpAny (model prog w) A (Builtin.«super.__getattribute__» ⟨[.ref so, .str "__init__" tk], []⟩) Q E ⟨h, g, d, t, os⟩ := by
  have hlk := slot_wd_get.lookup
  have hne : (Value.ref x == Value.ref C) = false := by simp [hxC]
  have hTf : (⟨h, g, d, t, os⟩ : Shared).TypeIs (.builtin "Exception.__init__") "wrapper_descriptor" := type_exc_init
  have hdt : ({ cls := .type "super", dict := none, data := .fields #[.ref C, .ref x, .ref C], slots := #[] } : Obj).data = .fields #[.ref C, .ref x, .ref C] := rfl
  have f0 : (#[.ref C, .ref x, .ref C] : Array Value)[0]? = some (.ref C) := rfl
  have f1 : (#[.ref C, .ref x, .ref C] : Array Value)[1]? = some (.ref x) := rfl
  have f2 : (#[.ref C, .ref x, .ref C] : Array Value)[2]? = some (.ref C) := rfl
  have hn : (("__init__" : Str) == ("__class__" : Str)) = false := by decide
  unfold Builtin.«super.__getattribute__»
  repeat (first
    | (with_reducible refine wpAny_field hso hdt f0 ?_) | (with_reducible refine wpAny_field hso hdt f1 ?_) | (with_reducible refine wpAny_field hso hdt f2 ?_)
    | (with_reducible refine ks_wpAny_notOpaque hno ?_)
    | (with_reducible refine wpAny_mroOf_exc hC ?_; rw [hl])
    | (refine ks_forIn_along X (fun _ _ => rfl) rfl ?_ hf)
    | (with_reducible refine wpAny_typeOf hTf ?_)
    | (with_reducible refine wpAny_call_entry slot_wd_get hTf entry_wd_get ?_ (args_wd_get _ _ _))
    | (with_reducible refine ⟨_, rfl, ?_⟩)
    | (with_reducible refine wpAny_loadPart_at hx ?_; rw [hxc])
    | (rw [owner_exc_init]; with_reducible refine wpAny_isSubtype_exc hC ?_; rw [hb])
    | (refine ifn1 (by first | (rw [hne]; decide) | (rw [hn]; decide) | decide | simp [hn, hne]) ?_)
    | (rw [if_neg (show ¬ ((Value.ref x == Value.ref C) = true) by rw [hne]; decide)]; rw [if_neg (show ¬ ((Value.ref x == Value.none) = true) by first | decide | simp)])
    | wp_step
    | dsimp only)
  all_goals exact hq
theorem getMethod_super_exc {so x : Addr} {ox : Obj} {l : List Value} {K : Frag} {pl : Sem Bool} {Q : Value × List Value → Shared → Prop}
    (hso : h.get? so = some { cls := .type "super", dict := none, data := .fields #[.ref C, .ref x, .ref C], slots := #[] }) (hno : Looks (model prog w) h (opaqueClassAbove (.ref C)) none)
    (hC : h.get? C = some (excClassObj nm q C N bs bm hdct sn sub ab col dd k0 k1 k2 k3 k5 "Exception.__new__")) (hl : ((Value.ref C :: bm).dropWhile (· != .ref C)).drop 1 = l) (hb : (Value.ref C :: bm).contains (.type "Exception") = true) (X : K.In h)
    (hf : alongIn K "__init__" l = some (some (.builtin "Exception.__init__"))) (hx : h.get? x = some ox) (hxc : ox.cls = .ref C) (hxC : x ≠ C)
    (hq : Q (.ref h.objs.size, []) ⟨h.push { cls := .type "method-wrapper", data := .fields #[.builtin "Exception.__init__", .ref x] }, g, d, t + 1, os⟩) :
    wpAny (model prog w) A (getMethod (.ref so) "__init__" pl) Q E ⟨h, g, d, t, os⟩ := by
  have hlk := F.ks_slot_super_ga.lookup
  have hT : ∀ t', (⟨h, g, d, t', os⟩ : Shared).TypeIs (.ref so) "super" := fun _ => ⟨_, hso, rfl⟩
  unfold getMethod
  refine wpAny_bind (wpAny_specialOf (hT _) hlk ?_)
  show wpAny _ _ (if (Manifest.canonical "super.__getattribute__" != "object.__getattribute__") = true then _ else _) _ _ _
  rw [if_pos F.ks_canon_super_ga]
  unfold getAttr getAttrBy
  refine wpAny_bind (wpAny_bind (wpAny_mkText (wpAny_holding (wpAny_bind (wpAny_typeOf (hT _) (wpAny_bind (wpAny_of_eq hlk ?_)))))))
  show wpAny _ _ (getAttrByItsOwn (.ref so) (.str "__init__" t) (.type "super") (.builtin "super.__getattribute__") true false) _ _ _
  unfold getAttrByItsOwn hookBefore callGetattribute boundAndCalled
  refine wpAny_bind (wpAny_of_eq (show (if onTheHeap (.type "super") then typeLookup (.type "super") "__getattr__" else pure none) = pure none from rfl) ?_)
  refine wpAny_bind (wpAny_attempt (wpAny_holding ?_))
  show wpAny _ _ (bindSpecial (.builtin "super.__getattribute__") (.ref so) >>= _) _ _ _
  refine wpAny_bind (wpAny_of_eq (F.ks_slot_super_ga.bind _) ?_)
  refine wpAny_call_entry F.ks_slot_super_ga (hT _) F.ks_entry_super_ga (super_ga_exc hso hno hC hl hb X hf hx hxc hxC ⟨_, rfl, ?_⟩) (F.ks_gaArgs_super _ _)
  exact wpAny_pure (wpAny_pure hq)
theorem call_wrapper_init (F : ExcBaseFacts "Exception" "Exception.__new__" "Exception.__init__" bm) {qa x : Addr} {t0 : Addr} {dx : Option Addr} {rest : List Value} {Q : Value → Shared → Prop}
    (hqa : h.get? qa = some { cls := .type "method-wrapper", dict := none, data := .fields #[.builtin "Exception.__init__", .ref x], slots := #[] })
    (hC : h.get? C = some (excClassObj nm q C N bs bm hdct sn sub ab col dd k0 k1 k2 k3 k5 "Exception.__new__")) (hx : h.get? x = some { cls := .ref C, dict := dx, data := .fields #[.ref t0, .none, .none, .none, .bool false, .none], slots := #[] })
    (hsz : rest.length ≤ sizeLine)
    (hq : Q .none ⟨(h.push { cls := .type "tuple", data := .seq rest.toArray }).update x (Obj.mapFields (·.setIfInBounds 0 (.ref h.objs.size))), g, d, t, os⟩) :
    wpAny (model prog w) A (call (.ref qa) rest) Q E ⟨h, g, d, t, os⟩ := by
  refine wpAny_call (codeAny_of_tree ?_)
  show wpAny _ _ (callAny (.ref qa) _) _ _ _
  unfold callAny
  refine wpAny_bind (wpAny_load hqa ?_)
  dsimp only
  rw [if_pos (by decide)]
  show wpAny _ _ (checkBoundCall "Exception.__init__" ⟨.ref x :: rest, []⟩ >>= fun _ => again (.builtin "Exception.__init__" ⟨.ref x :: rest, []⟩)) _ _ _
  refine wpAny_bind ?_
  have hshort := F.noStar
  have hcB : (Value.ref C :: bm).contains (.type "Exception") = true := by rw [List.contains_cons, F.hasB, Bool.or_true]
  simp only [checkBoundCall, F.initRow, F.initKind]
  repeat (first | with_reducible refine wpAny_loadPart_at hx ?_ | with_reducible refine wpAny_loadPart_at hC ?_ | (with_reducible refine wpAny_isSubtype_exc hC ?_; rw [hcB]) | wp_step)
  refine wpAny_onRaise ?_
  rw [show ∀ (a b : String) (n : Nat), Bind.check ⟨.positional, "*", "Exception", .self, [⟨"args", .varPos, false⟩]⟩ a b n (List.map (fun x => x.fst) ({ pos := Value.ref x :: rest } : Args).kw) = pure () from
    fun a b n => check_star_args _ _ _ _ _ _]
  refine wpAny_pure ?_
  refine wpAny_pure ⟨Code.quiet_builtin _ (by decide +kernel), codeAny_builtin F.initEntry ?_⟩
  repeat (first | with_reducible refine wpAny_loadPart_at hx ?_ | with_reducible refine wpAny_loadPart_at hC ?_ | (with_reducible refine wpAny_isSubtype_exc hC ?_; rw [hcB]) | wp_step)
  exact hq
end
end
section
section
variable {prog : Program} {w : World} {A : Around} {E : Value → Shared → Prop} {s : Shared} {K : Frag} {C x : Addr}
section
variable {h : Heap} {g : Array GenState} {d : Drawn} {t : Nat} {os : OsState}
variable {nm q : Str} {N : Addr} {bs bm : List Value} {sn : List Str} {sub : List Value} {ab : Bool} {col : Option Bool} {dd : Option Addr} {k0 k1 k2 k3 k5 : Option Value} {B newId sa owner : String} {mN : Str → Option Value} {name : Str} {v : Value}
noncomputable abbrev fldO (C : Addr) (di : Option Addr) (vs : Array Value) : Obj := { cls := .ref C, dict := di, data := .fields vs, slots := #[] }
theorem osa_exc0 {tk : Tok} {vs : Array Value} {Q : Fin → Shared → Prop} (SF : StoreFacts B bm sa owner)
    (hC : h.get? C = some (excClassObj nm q C N bs bm true sn sub ab col dd k0 k1 k2 k3 k5 newId)) (hn : h.Ns N mN) (hna : mN name = none) (hB : typeLookup (.type B) name = pure none)
    (hx : h.get? x = some { cls := .ref C, dict := none, data := .fields vs, slots := #[] })
    (hq : Q (.done (.ret .none)) ⟨((h.push { cls := .type "dict", data := .dict #[] }).update x (fun o => { o with dict := some h.objs.size })).update h.objs.size (Obj.putName name (PyData.keyHash w.params name) (.str name t) v), g, d, t + 1, os⟩) :
    wpAny (model prog w) A (Builtin.«object.__setattr__» ⟨[.ref x, .str name tk, v], []⟩) Q E ⟨h, g, d, t, os⟩ := by
  have hpass := SF.passes (.ref x)
  unfold Builtin.«object.__setattr__»
  repeat (first | rw [refuse_eq] | (rw [refuseLoop_ref, hpass]) | with_reducible refine wpAny_loadPart_at hx ?_ | with_reducible refine wpAny_mroOf_exc hC ?_ | (with_reducible refine wpAny_typeLookup_exc hC hn SF.mro hB ?_; rw [hna]) | wp_step)
  have hxs : x < h.objs.size := Heap.lt_size hx
  have hx1 := Heap.get?_push_of_some { cls := .type "dict", data := .dict #[] } hx
  have hx2 : ((h.push { cls := .type "dict", data := .dict #[] }).update x (fun o => { o with dict := some h.objs.size })).get? h.objs.size = some { cls := .type "dict", data := .dict #[] } :=
    (Heap.get?_update_ne _ _ _ _ (Nat.ne_of_gt hxs)).trans (Heap.get?_push_size _ rfl)
  have hx3 := Heap.get?_update_self (Obj.putName name (PyData.keyHash w.params name) (.str name t) v) hx2 rfl
  refine wpAny_askSetting (wpAny_pure (wpAny_bind (wpAny_mkText (wpAny_bind (wpAny_loadPart hx2 ?_)))))
  dsimp only
  rw [aRefKeyMayBeTheName_at, if_neg (by simp)]
  refine wpAny_updatePart hx2 ?_
  refine wpAny_bind (wpAny_lookBehind hx3 (by exact pastItsLine_dict (by rw [sizeLine_eq]; show 1 ≤ 16777216 + 1; decide)) ?_)
  exact wpAny_pure hq
theorem osa_exc1 {tk : Tok} {vs : Array Value} {di : Addr} {es : List DictEntry} {n n' : Nat} {es' : List DictEntry} {Q : Fin → Shared → Prop} (SF : StoreFacts B bm sa owner)
    (hC : h.get? C = some (excClassObj nm q C N bs bm true sn sub ab col dd k0 k1 k2 k3 k5 newId)) (hn : h.Ns N mN) (hna : mN name = none) (hB : typeLookup (.type B) name = pure none)
    (hx : h.get? x = some { cls := .ref C, dict := some di, data := .fields vs, slots := #[] }) (hd : h.get? di = some (dictOf es n))
    (hr : (es.toArray.any (·.refKey)) = false) (e : Obj.putName name (PyData.keyHash w.params name) (.str name t) v (dictOf es n) = dictOf es' n') (hz : es'.length ≤ 1000)
    (hq : Q (.done (.ret .none)) ⟨h.update di (Obj.putName name (PyData.keyHash w.params name) (.str name t) v), g, d, t + 1, os⟩) :
    wpAny (model prog w) A (Builtin.«object.__setattr__» ⟨[.ref x, .str name tk, v], []⟩) Q E ⟨h, g, d, t, os⟩ := by
  have hpass := SF.passes (.ref x)
  unfold Builtin.«object.__setattr__»
  repeat (first | rw [refuse_eq] | (rw [refuseLoop_ref, hpass]) | with_reducible refine wpAny_loadPart_at hx ?_ | with_reducible refine wpAny_mroOf_exc hC ?_ | (with_reducible refine wpAny_typeLookup_exc hC hn SF.mro hB ?_; rw [hna]) | wp_step)
  have hx3 := Heap.get?_update_self (Obj.putName name (PyData.keyHash w.params name) (.str name t) v) hd (by rw [e]; rfl)
  refine wpAny_askSetting (wpAny_pure (wpAny_bind (wpAny_mkText (wpAny_bind (wpAny_loadPart hd ?_)))))
  dsimp only
  rw [aRefKeyMayBeTheName_at, hr, Bool.and_false, if_neg (by simp)]
  refine wpAny_updatePart hd ?_
  refine wpAny_bind (wpAny_lookBehind hx3 (by rw [e]; exact pastItsLine_dict (by rw [List.size_toArray, sizeLine_eq]; omega)) ?_)
  exact wpAny_pure hq
theorem sa_open {o : Obj} {Q : Unit → Shared → Prop} (SF : StoreFacts B bm sa owner)
    (hC : h.get? C = some (excClassObj nm q C N bs bm true sn sub ab col dd k0 k1 k2 k3 k5 newId)) (hn : h.Ns N mN) (hns : mN "__setattr__" = none) (hx : h.get? x = some o) (hc : o.cls = .ref C)
    (hq : wpAny (model prog w) A.in1 (Builtin.«object.__setattr__» ⟨[.ref x, .str name t, v], []⟩) (fun fin s' => fin = .done (.ret .none) ∧ Q () s') E ⟨h, g, d, t + 1, os⟩) :
    wpAny (model prog w) A (setAttr (.ref x) name v) Q E ⟨h, g, d, t, os⟩ := by
  have f3 := SF.slot.bind (.ref x)
  unfold setAttr callSpecial? specialOf
  repeat (any_goals (first | assumption | (with_reducible refine wpAny_loadPart_at hx ?_; rw [hc]) | (with_reducible refine wpAny_typeLookup_exc hC hn SF.mro SF.slot.lookup ?_; rw [hns]) | wp_step))
  refine codeAny_call_builtin SF.slot.plain SF.entry (wpAny_check_sa SF hC hx hc (wpAny_mono hq (fun fin s' z => ?_) fun _ _ z => z))
  obtain ⟨rfl, z⟩ := z
  exact wpAny_pure (wpAny_pure z)
end
section
variable {h₀ : Heap} {L : Addr} {m : Str → Option Value} {news : List (Addr × Obj)} {nm q : Str} {N : Addr} {bs bm : List Value} {sn : List Str} {sub : List Value} {ab : Bool} {col : Option Bool} {dd : Option Addr} {k0 k1 k2 k3 k5 : Option Value} {B newId sa owner : String} {mN : Str → Option Value} {name : Str} {v : Value} {vs : Array Value} {Q : Unit → Shared → Prop}
theorem setAttr_E0 (SF : StoreFacts B bm sa owner) (F : Fr h₀ L s.heap m) (NN : News h₀ L s.heap ((x, fldO C none vs) :: news)) (hne : ∀ p ∈ news, p.1 ≠ x)
    (hC : s.heap.get? C = some (excClassObj nm q C N bs bm true sn sub ab col dd k0 k1 k2 k3 k5 newId)) (hn : s.heap.Ns N mN) (hns : mN "__setattr__" = none) (hna : mN name = none) (hB : typeLookup (.type B) name = pure none)
    (hq : ∀ di h', Fr h₀ L h' m → News h₀ L h' ((di, dictOf [⟨PyData.keyHash w.params name, .str name (s.toks + 1), v⟩] 1) :: (x, fldO C (some di) vs) :: news) → x < di → AllLt di news → Q () { s with heap := h', toks := s.toks + 2 }) :
    wpAny (model prog w) A (setAttr (.ref x) name v) Q E s := by
  obtain ⟨hh, g, d, t, os⟩ := s
  have hx := (NN _ (.head _)).1
  refine sa_open SF hC hn hns hx rfl (osa_exc0 SF hC hn hna hB hx ⟨rfl, ?_⟩)
  have lx : x < hh.objs.size := Heap.lt_size hx
  have ln : ∀ p ∈ news, p.1 < hh.objs.size := fun p hp => Heap.lt_size (NN p (.tail _ hp)).1
  have F1 := F.push { cls := .type "dict", data := .dict #[] }
  have N1 := NN.push F { cls := .type "dict", data := .dict #[] }
  obtain ⟨F2, N2⟩ := news_upd (pre := [(hh.objs.size, _)]) (o' := fldO C (some hh.objs.size) vs) (f := fun o => { o with dict := some hh.objs.size }) F1 N1
    (fun p hp => by rw [List.mem_singleton.mp hp]; exact Nat.ne_of_gt lx) hne rfl rfl
  obtain ⟨F3, N3⟩ := news_upd (pre := []) (o' := dictOf [⟨PyData.keyHash w.params name, .str name (t + 1), v⟩] 1) (f := Obj.putName name (PyData.keyHash w.params name) (.str name (t + 1)) v) F2 N2 (fun _ h => nomatch h)
    (fun p hp => by
      rcases List.mem_cons.mp hp with rfl | hp
      · exact Nat.ne_of_lt lx
      · exact Nat.ne_of_lt (ln p hp)) rfl rfl
  exact hq _ _ F3 N3 lx (allLt_of ln)
theorem setAttr_E1 {di : Addr} {es es' : List DictEntry} {n n' : Nat} (SF : StoreFacts B bm sa owner) (F : Fr h₀ L s.heap m) (NN : News h₀ L s.heap ((di, dictOf es n) :: (x, fldO C (some di) vs) :: news)) (hx0 : x < di) (hne : ∀ p ∈ news, p.1 ≠ di)
    (hC : s.heap.get? C = some (excClassObj nm q C N bs bm true sn sub ab col dd k0 k1 k2 k3 k5 newId)) (hn : s.heap.Ns N mN) (hns : mN "__setattr__" = none) (hna : mN name = none) (hB : typeLookup (.type B) name = pure none)
    (hr : (es.toArray.any (·.refKey)) = false) (e : Obj.putName name (PyData.keyHash w.params name) (.str name (s.toks + 1)) v (dictOf es n) = dictOf es' n') (hz : es'.length ≤ 1000)
    (hq : ∀ h', Fr h₀ L h' m → News h₀ L h' ((di, dictOf es' n') :: (x, fldO C (some di) vs) :: news) → Q () { s with heap := h', toks := s.toks + 2 }) :
    wpAny (model prog w) A (setAttr (.ref x) name v) Q E s := by
  obtain ⟨hh, g, d, t, os⟩ := s
  have hx := (NN _ (.tail _ (.head _))).1
  have hd := (NN _ (.head _)).1
  refine sa_open SF hC hn hns hx rfl (osa_exc1 SF hC hn hna hB hx hd hr e hz ⟨rfl, ?_⟩)
  obtain ⟨F3, N3⟩ := news_upd (pre := []) (o' := dictOf es' n') (f := Obj.putName name (PyData.keyHash w.params name) (.str name (t + 1)) v) F NN (fun _ h => nomatch h)
    (fun p hp => by
      rcases List.mem_cons.mp hp with rfl | hp
      · exact Nat.ne_of_lt hx0
      · exact hne p hp) e rfl
  exact hq _ F3 N3
end
end
end
section
noncomputable abbrev Led := List (Addr × Obj)
local macro_rules | `(tactic| k_room) => `(tactic| ktr_room)
local macro_rules | `(tactic| k_units) => `(tactic| ktr_units)
theorem callWith_wrap {M : Model} {A : Around} {E : Value → Shared → Prop} {s : Shared} {env : Env} {pos : Pos} {q : Addr} {first : List Value} {Q : Value → Shared → Prop} {vs : Array Value} {e : Expr} {rest : List Expr}
    (h : wpAny M A (spliced (backTo pos (starEach (e :: rest) env))) (fun vs₁ s₁ => s₁.heap.get? q = some { cls := .type "method-wrapper", dict := none, data := .fields vs, slots := #[] } ∧ wpAny M A (call (.ref q) (first ++ vs₁)) Q E s₁) E s)
    (he : starEach (e :: rest) env = (false, eval e env) :: starEach rest env := by rfl) (hplain : (backTo pos (starEach rest env)).any (·.1) = false := by rfl) :
    wpAny M A (callWith pos (.ref q) first (backTo pos (starEach (e :: rest) env)) []) Q E s := by
  rw [he] at h ⊢
  exact callWith_of (P := fun h => h.get? q = some { cls := .type "method-wrapper", dict := none, data := .fields vs, slots := #[] }) (by show ((false || (backTo pos (starEach rest env)).any (·.1)) || false) = false; rw [hplain]; rfl)
    (fun h X => ⟨.machine, .inr (.inl rfl), (Looks.ld (part := none) X).andThen .now⟩) (Calls.evalArgs_plain h)
theorem news_drop3 {h₀ h : Heap} {L : Addr} {a b c : Addr × Obj} {l : Led} (N : News h₀ L h (a :: b :: c :: l)) : News h₀ L h (b :: a :: l) := fun p hp => N p (by
  rcases List.mem_cons.mp hp with rfl | hp
  · exact .tail _ (.head _)
  · rcases List.mem_cons.mp hp with rfl | hp
    · exact .head _
    · exact .tail _ (.tail _ (.tail _ hp)))
noncomputable def Made (w : World) (vs : List Value) (c told : Value) : Prop :=
  ∀ (p : Program) (loose : List Str) (mean : ExcName → Option Value) (mg mb : Str → Option Value) (dp un : Nat) (gd : Option (List Code)) (cn : Str) (cs : Scope) (a : Addr) (ccd : Value) (cl : List (Str × Addr)) (outer : List Env) (A₀ : Around) (base h₀ : Heap) (L : Addr) (m : Str → Option Value) (news : Led) (s : Shared) (Q E : Value → Shared → Prop),
    Below A₀ base outer h₀ → Fr h₀ L s.heap m → (K w.params).In h₀ → News h₀ L s.heap news → Top p loose mean mg mb h₀ → cs.kind = .function → dp + 2 < recursionLimit → un + 16 < cLine →
    (∀ (e di t : Nat) (k1 k2 : Tok) h' tk', Fr h₀ L h' m → News h₀ L h' ((e, excO 41 t (some di)) :: (di, dictOf [⟨PyData.keyHash w.params "code", .str "code" k1, c⟩, ⟨PyData.keyHash w.params "told", .str "told" k2, told⟩] 2) :: news) →
      AllLt e news → AllLt di news → e < di → Q (.ref e) { s with heap := h', toks := tk' }) →
    wpAny (model PySem.Challenge.rw_pf0018_01.row.prog w) (ktrTop dp un gd cn cs L a ccd cl outer) (call (.ref 41) vs) Q E s
theorem made1 (w : World) (c : Value) : Made w [c] c (.str "" 212) := by
  unfold Made
  intro p loose mean mg mb dp un gd cn cs a ccd cl outer A₀ base h₀ L m news s Q E B F X N T hk hd hu hret
  revert X; k_fill; intro X
  obtain ⟨hh, g, d, t, os⟩ := s
  have X1 := X.keeps F.keep
  have hC := X1 41 _ rfl
  have hN := X1 40 _ rfl
  refine call_own_init PySem.F.excBase_Exception hC (Heap.Ns.of_isNs (isNs_of_in X1 (by kernel_rfl))) (fi := 38) (by unfold Heap.nsMap; rw [hN]; rfl) (X1 38 _ rfl) rfl (by rw [sizeLine_eq]; show 1 ≤ 16777216; decide) ?_
  have F1 := F.push { cls := .type "tuple", data := .seq [c].toArray }
  have N1 := N.push F { cls := .type "tuple", data := .seq [c].toArray }
  have l1 : ∀ p ∈ news, p.1 < hh.objs.size := fun p hp => Heap.lt_size (N p hp).1
  have F2 := F1.push (excO 41 hh.objs.size none)
  have N2 := N1.push F1 (excO 41 hh.objs.size none)
  have e1 : (hh.push { cls := .type "tuple", data := .seq [c].toArray }).objs.size = hh.objs.size + 1 := Heap.size_push ..
  rw [e1] at N2
  have hne : 41 < hh.objs.size := Heap.lt_size hC
  replace l1 := allLt_of l1
  have l2 : hh.objs.size < hh.objs.size + 1 := Nat.lt_succ_self _
  have l3 : AllLt (hh.objs.size + 1) news := allLt_of fun p hp => Nat.lt_succ_of_lt (Heap.lt_size (N p hp).1)
  clear N1 F1 hC hN X1 e1 N F
  revert F2 N2
  generalize ((hh.push { cls := .type "tuple", data := .seq [c].toArray }).push (excO 41 hh.objs.size none)) = h2
  revert hne l1 l2 l3
  generalize hh.objs.size + 1 = e
  generalize hh.objs.size = t0
  intro hne l1 l2 l3 F N
  refine' ks_code_super ?k1 ?k2 ?k3 ?k4 ?k5 ?kA ?kF ?kK ?k6 ?k7 ?k8 ?k9 ?kB ?_ ?c1 ?c2 ?c3 ?c4
  (case kA => exact rfl); (case kF => exact rfl); (case kK => exact hk); (case k1 => k_asm); (case k2 => k_asm); (case k3 => k_asm); (case k4 => k_asm); (case k5 => k_asm); (case k6 => k_is); (case k7 => k_is); (case k8 => k_room)
  (case k9 => exact binds_K (by k_in) rfl (by k_is) rfl rfl rfl)
  (case kB => exact locs rfl); (case c1 => decide); (case c2 => exact rfl); (case c3 => exact rfl); (case c4 => exact rfl)
  intro g' L' h' FG' F' N' B' X' T' l4
  k_lt l4
  try dsimp only
  have I : InstAt h' e (excO 41 t0 none) 41 none := ⟨(N' _ (.head _)).1, rfl, rfl, trivial⟩
  refine ks_wpAt_execs_cons (ks_wpAt_Expr_any (ks_wpAt_MethodCall (ks_node F' X' N' T' (by k_is) rfl rfl I (by k_is) rfl (by first | rfl | decide +kernel) (by k_is) (by k_is) (by k_is) (by k_is) (by decide) rfl rfl rfl rfl (by decide +kernel) (by first | boot_by_name | rfl | kernel_rfl) ?_)))
  intro so h3 F3 N3 l5
  have X3 := X'.keeps F3.keep
  obtain ⟨hp, gg, dd, tt, os'⟩ : Shared := ⟨h3, g, d, t, os⟩
  refine getMethod_super_exc (h := h3) (K := K w.params) (bm := [.type "Exception", .type "BaseException", .type "object"]) (l := [.type "Exception", .type "BaseException", .type "object"]) (N3 _ (.head _)).1 (looks_opaque X3 (by k_is)) (X3 41 _ rfl) (by decide) (by decide) X3 (by kernel_rfl) (N3 _ (.tail _ (.head _))).1 rfl (Nat.ne_of_gt (Nat.lt_trans hne l2)) ?_
  have F4 := F3.push { cls := .type "method-wrapper", data := .fields #[.builtin "Exception.__init__", .ref e] }
  have N4 := N3.push F3 { cls := .type "method-wrapper", data := .fields #[.builtin "Exception.__init__", .ref e] }
  revert F4 N4
  generalize (h3.push { cls := .type "method-wrapper", data := .fields #[.builtin "Exception.__init__", .ref e] }) = h4
  have l6 : so < h3.objs.size := Heap.lt_size (N3 _ (.head _)).1
  have l7 : AllLt h3.objs.size ((e, excO 41 t0 none) :: (t0, { cls := .type "tuple", data := .seq [c].toArray }) :: news) := allLt_of fun p hp => Heap.lt_size (N3 p (.tail _ hp)).1
  revert l6 l7
  generalize h3.objs.size = q
  intro l6 l7 F4 N4
  clear F3 N3 X3 I F' N'
  dsimp only
  refine callWith_wrap (vs := #[.builtin "Exception.__init__", .ref e]) ?_
  k_steps
  · exact (N4 _ (.head _)).1
  have X4 := X'.keeps F4.keep
  refine call_wrapper_init (h := h4) PySem.F.excBase_Exception (N4 _ (.head _)).1 (X4 41 _ rfl) (N4 _ (.tail _ (.tail _ (.head _)))).1 (by rw [sizeLine_eq]; show 1 ≤ 16777216; decide) ?_
  have F5 := F4.push { cls := .type "tuple", data := .seq [c].toArray }
  have N5 := N4.push F4 { cls := .type "tuple", data := .seq [c].toArray }
  have l8 : AllLt h4.objs.size ((e, excO 41 t0 none) :: news) := allLt_of fun p hp => Heap.lt_size (N4 p (by
    rcases List.mem_cons.mp hp with rfl | hp
    · exact .tail _ (.tail _ (.head _))
    · exact .tail _ (.tail _ (.tail _ (.tail _ hp))))).1
  revert l8 F5 N5
  generalize (h4.push { cls := .type "tuple", data := .seq [c].toArray }) = h5
  generalize h4.objs.size = t1
  intro F5 N5 l8
  have N6 : News g' L' h5 ((e, excO 41 t0 none) :: ((t1, { cls := .type "tuple", data := .seq [c].toArray }) :: news)) := fun p hp => N5 p (by
    rcases List.mem_cons.mp hp with rfl | hp
    · exact .tail _ (.tail _ (.tail _ (.head _)))
    · rcases List.mem_cons.mp hp with rfl | hp
      · exact .head _
      · exact .tail _ (.tail _ (.tail _ (.tail _ (.tail _ hp)))))
  have hne6 : ∀ p ∈ ((t1, ({ cls := .type "tuple", data := .seq [c].toArray } : Obj)) :: news), p.1 ≠ e := by
    intro p hp
    rcases List.mem_cons.mp hp with rfl | hp
    · exact Nat.ne_of_gt l8.1
    · exact Nat.ne_of_lt (ktn_ltOf l3 p hp)
  obtain ⟨F7, N7⟩ := news_upd (pre := []) (f := Obj.mapFields (·.setIfInBounds 0 (.ref t1))) (o' := excO 41 t1 none) F5 N6 (fun _ h => nomatch h) hne6 rfl rfl
  revert F7 N7
  generalize (h5.update e (Obj.mapFields (·.setIfInBounds 0 (.ref t1)))) = h7
  intro F7 N7
  clear F5 N5 N6 F4 N4 X4 l6 l7
  simp only [List.nil_append] at N7
  refine wpAt_of_wpAny ?_
  k_steps
  have X7 := X'.keeps F7.keep
  have hN7 := X7 40 _ rfl
  refine setAttr_E0 (news := (t1, { cls := .type "tuple", data := .seq [c].toArray }) :: news) (mN := h7.nsMap 40) PySem.F.store_Exception F7 N7 hne6 (X7 41 _ rfl) (Heap.Ns.of_isNs (isNs_of_in X7 (by kernel_rfl))) (by unfold Heap.nsMap; rw [hN7]; rfl) (by unfold Heap.nsMap; rw [hN7]; rfl)
    (by rw [typeLookup_type, builtinLookup_eq_fast]; kernel_rfl) fun di h8 F8 N8 l9 l10 => ?_
  clear F7 N7 X7 hN7
  dsimp only
  k_steps
  have X8 := X'.keeps F8.keep
  have hN8 := X8 40 _ rfl
  refine setAttr_E1 (mN := h8.nsMap 40) PySem.F.store_Exception F8 N8 l9 (fun p hp => Nat.ne_of_lt (ktn_ltOf l10 p hp)) (X8 41 _ rfl) (Heap.Ns.of_isNs (isNs_of_in X8 (by kernel_rfl))) (by unfold Heap.nsMap; rw [hN8]; rfl) (by unfold Heap.nsMap; rw [hN8]; rfl)
    (by rw [typeLookup_type, builtinLookup_eq_fast]; kernel_rfl) (by rw [← Array.any_toList]; rfl) (by rfl) (by show 2 ≤ 1000; decide) fun h9 F9 N9 => ?_
  clear F8 N8 X8 hN8
  dsimp only
  k_steps
  rename_i kF kN _ _
  exact hret e di t1 _ _ h9 _ kF (news_drop3 kN) l3 l10.2 l9
theorem made2 (w : World) (c td : Value) : Made w [c, td] c td := by
  unfold Made
  intro p loose mean mg mb dp un gd cn cs a ccd cl outer A₀ base h₀ L m news s Q E B F X N T hk hd hu hret
  revert X; k_fill; intro X
  obtain ⟨hh, g, d, t, os⟩ := s
  have X1 := X.keeps F.keep
  have hC := X1 41 _ rfl
  have hN := X1 40 _ rfl
  refine call_own_init PySem.F.excBase_Exception hC (Heap.Ns.of_isNs (isNs_of_in X1 (by kernel_rfl))) (fi := 38) (by unfold Heap.nsMap; rw [hN]; rfl) (X1 38 _ rfl) rfl (by rw [sizeLine_eq]; show 2 ≤ 16777216; decide) ?_
  have F1 := F.push { cls := .type "tuple", data := .seq [c, td].toArray }
  have N1 := N.push F { cls := .type "tuple", data := .seq [c, td].toArray }
  have l1 : ∀ p ∈ news, p.1 < hh.objs.size := fun p hp => Heap.lt_size (N p hp).1
  have F2 := F1.push (excO 41 hh.objs.size none)
  have N2 := N1.push F1 (excO 41 hh.objs.size none)
  have e1 : (hh.push { cls := .type "tuple", data := .seq [c, td].toArray }).objs.size = hh.objs.size + 1 := Heap.size_push ..
  rw [e1] at N2
  have hne : 41 < hh.objs.size := Heap.lt_size hC
  replace l1 := allLt_of l1
  have l2 : hh.objs.size < hh.objs.size + 1 := Nat.lt_succ_self _
  have l3 : AllLt (hh.objs.size + 1) news := allLt_of fun p hp => Nat.lt_succ_of_lt (Heap.lt_size (N p hp).1)
  clear N1 F1 hC hN X1 e1 N F
  revert F2 N2
  generalize ((hh.push { cls := .type "tuple", data := .seq [c, td].toArray }).push (excO 41 hh.objs.size none)) = h2
  revert hne l1 l2 l3
  generalize hh.objs.size + 1 = e
  generalize hh.objs.size = t0
  intro hne l1 l2 l3 F N
  refine' ks_code_super ?k1 ?k2 ?k3 ?k4 ?k5 ?kA ?kF ?kK ?k6 ?k7 ?k8 ?k9 ?kB ?_ ?c1 ?c2 ?c3 ?c4
  (case kA => exact rfl); (case kF => exact rfl); (case kK => exact hk); (case k1 => k_asm); (case k2 => k_asm); (case k3 => k_asm); (case k4 => k_asm); (case k5 => k_asm); (case k6 => k_is); (case k7 => k_is); (case k8 => k_room)
  (case k9 => exact binds_K (by k_in) rfl (by k_is) rfl rfl rfl)
  (case kB => exact locs rfl); (case c1 => decide); (case c2 => exact rfl); (case c3 => exact rfl); (case c4 => exact rfl)
  intro g' L' h' FG' F' N' B' X' T' l4
  k_lt l4
  try dsimp only
  have I : InstAt h' e (excO 41 t0 none) 41 none := ⟨(N' _ (.head _)).1, rfl, rfl, trivial⟩
  refine ks_wpAt_execs_cons (ks_wpAt_Expr_any (ks_wpAt_MethodCall (ks_node F' X' N' T' (by k_is) rfl rfl I (by k_is) rfl (by first | rfl | decide +kernel) (by k_is) (by k_is) (by k_is) (by k_is) (by decide) rfl rfl rfl rfl (by decide +kernel) (by first | boot_by_name | rfl | kernel_rfl) ?_)))
  intro so h3 F3 N3 l5
  have X3 := X'.keeps F3.keep
  obtain ⟨hp, gg, dd, tt, os'⟩ : Shared := ⟨h3, g, d, t, os⟩
  refine getMethod_super_exc (h := h3) (K := K w.params) (bm := [.type "Exception", .type "BaseException", .type "object"]) (l := [.type "Exception", .type "BaseException", .type "object"]) (N3 _ (.head _)).1 (looks_opaque X3 (by k_is)) (X3 41 _ rfl) (by decide) (by decide) X3 (by kernel_rfl) (N3 _ (.tail _ (.head _))).1 rfl (Nat.ne_of_gt (Nat.lt_trans hne l2)) ?_
  have F4 := F3.push { cls := .type "method-wrapper", data := .fields #[.builtin "Exception.__init__", .ref e] }
  have N4 := N3.push F3 { cls := .type "method-wrapper", data := .fields #[.builtin "Exception.__init__", .ref e] }
  revert F4 N4
  generalize (h3.push { cls := .type "method-wrapper", data := .fields #[.builtin "Exception.__init__", .ref e] }) = h4
  have l6 : so < h3.objs.size := Heap.lt_size (N3 _ (.head _)).1
  have l7 : AllLt h3.objs.size ((e, excO 41 t0 none) :: (t0, { cls := .type "tuple", data := .seq [c, td].toArray }) :: news) := allLt_of fun p hp => Heap.lt_size (N3 p (.tail _ hp)).1
  revert l6 l7
  generalize h3.objs.size = q
  intro l6 l7 F4 N4
  clear F3 N3 X3 I F' N'
  dsimp only
  refine callWith_wrap (vs := #[.builtin "Exception.__init__", .ref e]) ?_
  k_steps
  · exact (N4 _ (.head _)).1
  have X4 := X'.keeps F4.keep
  refine call_wrapper_init (h := h4) PySem.F.excBase_Exception (N4 _ (.head _)).1 (X4 41 _ rfl) (N4 _ (.tail _ (.tail _ (.head _)))).1 (by rw [sizeLine_eq]; show 1 ≤ 16777216; decide) ?_
  have F5 := F4.push { cls := .type "tuple", data := .seq [c].toArray }
  have N5 := N4.push F4 { cls := .type "tuple", data := .seq [c].toArray }
  have l8 : AllLt h4.objs.size ((e, excO 41 t0 none) :: news) := allLt_of fun p hp => Heap.lt_size (N4 p (by
    rcases List.mem_cons.mp hp with rfl | hp
    · exact .tail _ (.tail _ (.head _))
    · exact .tail _ (.tail _ (.tail _ (.tail _ hp))))).1
  revert l8 F5 N5
  generalize (h4.push { cls := .type "tuple", data := .seq [c].toArray }) = h5
  generalize h4.objs.size = t1
  intro F5 N5 l8
  have N6 : News g' L' h5 ((e, excO 41 t0 none) :: ((t1, { cls := .type "tuple", data := .seq [c].toArray }) :: news)) := fun p hp => N5 p (by
    rcases List.mem_cons.mp hp with rfl | hp
    · exact .tail _ (.tail _ (.tail _ (.head _)))
    · rcases List.mem_cons.mp hp with rfl | hp
      · exact .head _
      · exact .tail _ (.tail _ (.tail _ (.tail _ (.tail _ hp)))))
  have hne6 : ∀ p ∈ ((t1, ({ cls := .type "tuple", data := .seq [c].toArray } : Obj)) :: news), p.1 ≠ e := by
    intro p hp
    rcases List.mem_cons.mp hp with rfl | hp
    · exact Nat.ne_of_gt l8.1
    · exact Nat.ne_of_lt (ktn_ltOf l3 p hp)
  obtain ⟨F7, N7⟩ := news_upd (pre := []) (f := Obj.mapFields (·.setIfInBounds 0 (.ref t1))) (o' := excO 41 t1 none) F5 N6 (fun _ h => nomatch h) hne6 rfl rfl
  revert F7 N7
  generalize (h5.update e (Obj.mapFields (·.setIfInBounds 0 (.ref t1)))) = h7
  intro F7 N7
  clear F5 N5 N6 F4 N4 X4 l6 l7
  simp only [List.nil_append] at N7
  refine wpAt_of_wpAny ?_
  k_steps
  have X7 := X'.keeps F7.keep
  have hN7 := X7 40 _ rfl
  refine setAttr_E0 (news := (t1, { cls := .type "tuple", data := .seq [c].toArray }) :: news) (mN := h7.nsMap 40) PySem.F.store_Exception F7 N7 hne6 (X7 41 _ rfl) (Heap.Ns.of_isNs (isNs_of_in X7 (by kernel_rfl))) (by unfold Heap.nsMap; rw [hN7]; rfl) (by unfold Heap.nsMap; rw [hN7]; rfl)
    (by rw [typeLookup_type, builtinLookup_eq_fast]; kernel_rfl) fun di h8 F8 N8 l9 l10 => ?_
  clear F7 N7 X7 hN7
  dsimp only
  k_steps
  have X8 := X'.keeps F8.keep
  have hN8 := X8 40 _ rfl
  refine setAttr_E1 (mN := h8.nsMap 40) PySem.F.store_Exception F8 N8 l9 (fun p hp => Nat.ne_of_lt (ktn_ltOf l10 p hp)) (X8 41 _ rfl) (Heap.Ns.of_isNs (isNs_of_in X8 (by kernel_rfl))) (by unfold Heap.nsMap; rw [hN8]; rfl) (by unfold Heap.nsMap; rw [hN8]; rfl)
    (by rw [typeLookup_type, builtinLookup_eq_fast]; kernel_rfl) (by rw [← Array.any_toList]; rfl) (by rfl) (by show 2 ≤ 1000; decide) fun h9 F9 N9 => ?_
  clear F8 N8 X8 hN8
  dsimp only
  k_steps
  rename_i kF kN _ _
  exact hret e di t1 _ _ h9 _ kF (news_drop3 kN) l3 l10.2 l9
end
section
inductive TrD (h base : Heap) (e di : Addr) (fl : Value) : Prop | mk (vs : Array Value) (T : Addr) (oT : Obj) (ts : Array Value) (he : h.get? e = some (fldO 41 (some di) vs)) (h1 : vs[1]? = some (.ref T)) (hn : base.get? T = none) (ht : T ≠ e) (hT : h.get? T = some oT) (hd : oT.data = .fields ts) (h3 : ts[3]? = some fl)
structure UpD (base : Heap) (l : List Env) (e di : Addr) (fl : Value) (h h' : Heap) : Prop where
  stays : base.StaysIn h'
  frames : h'.FunFrames base l
  tr : TrD h' base e di fl
  slots : h.UpToSlots h'
structure FlyD (base : Heap) (l : List Env) (e di : Addr) (fl : Value) (h : Heap) : Prop where
  stays : base.StaysIn h
  new : base.get? e = none
  frames : h.FunFrames base l
  tr : TrD h base e di fl
section
variable {M : Model} {A : Around} {E : Value → Shared → Prop} {s : Shared} {base : Heap} {env : Env} {outer l : List Env} {L e di : Addr} {vs : Array Value} {head fl : Value} {hadNext : Bool} {Q : Unit → Shared → Prop}
theorem UpD.fly {h h' : Heap} (x : UpD base l e di fl h h') (hen : base.get? e = none) : FlyD base l e di fl h' := ⟨x.stays, hen, x.frames, x.tr⟩
theorem entryD (hfr : A.frames = some (env :: outer)) (hl : s.heap.FunFrames base (env :: outer)) (hf : env.frame = some L)
    (he : s.heap.get? e = some (fldO 41 (some di) vs)) (hkb : base.StaysIn s.heap) (hen : base.get? e = none) (hsz : 1 < vs.size)
    (h : ∀ h', UpD base (env :: outer) e di (rawInt L) s.heap h' → Q () { s with heap := h' }) :
    wpAny M A (do let a ← frameOf env; let pl ← entryPlaceOf L hadNext; let b ← EntryCells.newEntry head a .none (rawInt L) .none pl; setField (.ref e) 1 b) Q E s := by
  have hne : e ∉ (env :: outer).filterMap (·.frame) := fun hm => by
    obtain ⟨_, o, ho, hnf⟩ := hl.mem hm
    rw [he] at ho; cases ho; exact hnf vs rfl
  refine wpAny_bind (wpAny_frameOf_fun hfr hl hf fun h₁ hs₁ => ?_)
  refine wpAny_bind (wpAny_entryPlaceOf fun pl hpl => ?_)
  unfold EntryCells.newEntry newFields
  refine wpAny_bind (wpAny_newObj_type ?_ (hpl.sizeOk5 _ _ _ _ _))
  have he₁ : h₁.get? e = some (fldO 41 (some di) vs) := (hs₁.2.1 e hne).trans he
  have kb₁ : base.StaysIn h₁ := fun b o hbo => (hs₁.2.1 b fun hm => by rw [(hl.mem hm).1] at hbo; cases hbo).trans (hkb b o hbo)
  generalize hoN : ({ cls := .type "traceback", dict := none, data := .fields ([head, .ref L, .none, rawInt L, .none] ++ (if pl.isEmpty then List.replicate 6 Value.none else pl)).toArray } : Obj) = oN
  have hoNf : oN.isFreed = false := by subst hoN; rfl
  have he₂ := Heap.get?_push_of_some (h := h₁) oN he₁
  refine wpAny_setField he₂ rfl hsz (h _ ?_)
  have hTe : h₁.objs.size ≠ e := Nat.ne_of_gt (Heap.lt_size he₁)
  have he₃ := Heap.get?_update_self (Obj.mapFields (·.setIfInBounds 1 (Value.ref h₁.objs.size))) he₂ rfl
  have keep : ∀ b o, b ≠ e → h₁.get? b = some o → ((h₁.push oN).update e (Obj.mapFields (·.setIfInBounds 1 (Value.ref h₁.objs.size)))).get? b = some o := fun b o hbe hb =>
    (Heap.get?_update_other _ _ (Ne.symm hbe)).trans (Heap.get?_push_of_some _ hb)
  have off : ∀ b o, s.heap.get? b = some o → (∀ vs, o.data ≠ .fields vs) → b ≠ e := fun b o hb hnf q => by
    rw [q, he] at hb; cases hb; exact hnf vs rfl
  refine ⟨fun b o hbo => keep b o (fun q => by rw [q, hen] at hbo; cases hbo) (kb₁ b o hbo), hl.of_keeps fun b o hb hnf => ?_, ?_, fun b o hb hnf => ?_⟩
  · obtain ⟨sl, hs⟩ := hs₁.2.2 b o hb
    exact ⟨_, keep b _ (off b o hb hnf) hs, rfl⟩
  · refine ⟨vs.setIfInBounds 1 (.ref h₁.objs.size), h₁.objs.size, oN, _, he₃, by simp [hsz], kb₁.fresh, hTe, (Heap.get?_update_other _ _ (Ne.symm hTe)).trans (Heap.get?_push_size h₁ hoNf), by subst hoN; rfl, ?_⟩
    rfl
  · obtain ⟨sl, hs⟩ := hs₁.2.2 b o hb
    exact ⟨sl, keep b _ (off b o hb hnf) hs⟩
theorem landD (x : FlyD base l e di fl s.heap) (h : ∀ h', UpD base l e di .none s.heap h' → Q () { s with heap := h' }) : wpAny M A (setFlight (.ref e) none) Q E s := by
  obtain ⟨hkb, hen, hl, vs, T, oT, ts, he, h1, hnT, hTe, hT, hdT, h3⟩ := x
  have other : ∀ b, b ≠ T → (s.heap.update T (Obj.mapFields (·.setIfInBounds 3 ((none : Option Addr).elim Value.none fun f => rawInt f)))).get? b = s.heap.get? b := fun b hb => Heap.get?_update_other _ _ (Ne.symm hb)
  have off : ∀ b o, s.heap.get? b = some o → (∀ vs, o.data ≠ .fields vs) → b ≠ T := fun b o hb hnf q => by
    rw [q, hT] at hb; cases hb; exact hnf ts hdT
  unfold setFlight
  refine wpAny_bind (wpAny_field he rfl h1 ?_)
  rw [if_pos (show (Value.ref T != Value.none) = true from by simp)]
  refine wpAny_setField hT hdT (Array.getElem?_eq_some_iff.mp h3).1 (h _ ⟨fun b o hbo => (other b fun q => by rw [q, hnT] at hbo; cases hbo).trans (hkb b o hbo),
    hl.of_keeps fun b o hb hnf => ⟨o, (other b (off b o hb hnf)).trans hb, rfl⟩, ?_, fun b o hb hnf => ⟨o.slots, (other b (off b o hb hnf)).trans hb⟩⟩)
  exact ⟨vs, T, _, _, (other e (Ne.symm hTe)).trans he, h1, hnT, hTe, Heap.get?_update_self _ hT (Obj.isFreed_of_fields (Obj.data_mapFields hdT _)), Obj.data_mapFields hdT _, by simp [(Array.getElem?_eq_some_iff.mp h3).1]⟩
theorem noteD_new (hfr : A.frames = some (env :: outer)) (hl : s.heap.FunFrames base (env :: outer)) (hf : env.frame = some L)
    (he : s.heap.get? e = some (fldO 41 (some di) vs)) (hkb : base.StaysIn s.heap) (hen : base.get? e = none) (h1 : vs[1]? = some .none)
    (h : ∀ h', UpD base (env :: outer) e di (rawInt L) s.heap h' → Q () { s with heap := h' }) : wpAny M A (noteFrame (.ref e) env) Q E s := by
  unfold noteFrame
  simp only [hf]
  refine wpAny_bind (wpAny_field he rfl h1 ?_)
  rw [if_neg (by decide)]
  exact entryD hfr hl hf he hkb hen (Array.getElem?_eq_some_iff.mp h1).1 h
theorem noteD_on (hfr : A.frames = some (env :: outer)) (hf : env.frame = some L) (x : FlyD base (env :: outer) e di .none s.heap)
    (h : ∀ h', UpD base (env :: outer) e di (rawInt L) s.heap h' → Q () { s with heap := h' }) : wpAny M A (noteFrame (.ref e) env) Q E s := by
  obtain ⟨hkb, hen, hl, vs, T, oT, ts, he, h1, hnT, hTe, hT, hdT, h3⟩ := x
  unfold noteFrame
  simp only [hf]
  refine wpAny_bind (wpAny_field he rfl h1 ?_)
  rw [if_pos (show (Value.ref T != Value.none) = true from by simp)]
  refine wpAny_bind (wpAny_field hT hdT h3 ?_)
  rw [if_neg (show ¬ ((Value.none == rawInt L) = true) from by simp [rawInt])]
  refine wpAny_bind (wpAny_setField hT hdT (Array.getElem?_eq_some_iff.mp h3).1 ?_)
  have other : ∀ b, b ≠ T → (s.heap.update T (Obj.mapFields (·.setIfInBounds 3 Value.none))).get? b = s.heap.get? b := fun b hb => Heap.get?_update_other _ _ (Ne.symm hb)
  have off : ∀ b o, s.heap.get? b = some o → (∀ vs, o.data ≠ .fields vs) → b ≠ T := fun b o hb hnf q => by
    rw [q, hT] at hb; cases hb; exact hnf ts hdT
  exact entryD hfr (hl.of_keeps fun b o hb hnf => ⟨o, (other b (off b o hb hnf)).trans hb, rfl⟩) hf ((other e (Ne.symm hTe)).trans he)
    (fun b o hbo => (other b fun q => by rw [q, hnT] at hbo; cases hbo).trans (hkb b o hbo)) hen (Array.getElem?_eq_some_iff.mp h1).1
    fun h' y => h h' ⟨y.stays, y.frames, y.tr, fun b o hb hnf => y.slots b o ((other b (off b o hb hnf)).trans hb) hnf⟩
theorem noteD_again (hf : env.frame = some L) (x : TrD s.heap base e di (rawInt L)) (h : Q () s) : wpAny M A (noteFrame (.ref e) env) Q E s := by
  obtain ⟨vs, T, oT, ts, he, h1, hnT, hTe, hT, hdT, h3⟩ := x
  unfold noteFrame
  simp only [hf]
  refine wpAny_bind (wpAny_field he rfl h1 ?_)
  rw [if_pos (show (Value.ref T != Value.none) = true from by simp)]
  refine wpAny_bind (wpAny_field hT hdT h3 ?_)
  rw [if_pos (show (rawInt L == rawInt L) = true from by simp)]
  exact wpAny_pure h
theorem leaveD_new (hfr : A.frames = some (env :: outer)) (hl : s.heap.FunFrames base (env :: outer)) (hf : env.frame = some L)
    (he : s.heap.get? e = some (fldO 41 (some di) vs)) (hkb : base.StaysIn s.heap) (hen : base.get? e = none) (h1 : vs[1]? = some .none)
    (h : ∀ h', FlyD base outer e di .none h' → s.heap.UpToSlots h' → Q () { s with heap := h' }) : wpAny M A (leaving env (.ref e)) Q E s := by
  unfold leaving
  refine wpAny_bind (noteD_new hfr hl hf he hkb hen h1 fun h' y => landD (y.fly hen) fun h'' z => h h'' ⟨z.stays, hen, z.frames.2.2, z.tr⟩ (y.slots.trans z.slots))
theorem leaveD_on (hfr : A.frames = some (env :: outer)) (hf : env.frame = some L) (x : FlyD base (env :: outer) e di .none s.heap)
    (h : ∀ h', FlyD base outer e di .none h' → s.heap.UpToSlots h' → Q () { s with heap := h' }) : wpAny M A (leaving env (.ref e)) Q E s := by
  unfold leaving
  refine wpAny_bind (noteD_on hfr hf x fun h' y => landD (y.fly x.new) fun h'' z => h h'' ⟨z.stays, x.new, z.frames.2.2, z.tr⟩ (y.slots.trans z.slots))
end
end
section
theorem let_G {P : Prop} (H : let G := P; G) : P := H
inductive Rz (base G : Heap) (l : List Env) (e di : Addr) (news : Led) (h : Heap) : Prop | mk (B : Heap) (hB : base.StaysIn B) (hG : ∀ b o, G.get? b = some o → b ∉ l.filterMap (·.frame) → B.get? b = some o) (hn : ∀ q ∈ news, B.get? q.1 = some q.2 ∧ G.get? q.1 = none ∧ base.get? q.1 = none) (x : FlyD B l e di .none h)
theorem frame_mem {env : Env} {L b : Addr} {outer : List Env} (hf : env.frame = some L) (hm : b ∈ (env :: outer).filterMap (·.frame)) : b = L ∨ b ∈ outer.filterMap (·.frame) := by
  obtain ⟨x, hx, hf'⟩ := List.mem_filterMap.mp hm
  rcases List.mem_cons.mp hx with rfl | hx
  · rw [hf] at hf'; exact .inl (Option.some.inj hf').symm
  · exact .inr (List.mem_filterMap.mpr ⟨x, hx, hf'⟩)
section
variable {M : Model} {A : Around} {E : Value → Shared → Prop} {s' : Shared} {base g h : Heap} {outer : List Env} {env : Env} {L e di : Addr} {m : Str → Option Value} {Q : Unit → Shared → Prop} {news : Led} {t : Addr}
theorem leaveZ_new {A₀ : Around} (B : Below A₀ base outer g) (hfr : A.frames = some (env :: outer)) (hf : env.frame = some L) (hk : env.scope.kind = .function) (F : Fr g L s'.heap m) (N : News g L s'.heap ((e, excO 41 t (some di)) :: news)) (hne : ∀ p ∈ news, p.1 ≠ e)
    (hQ : ∀ h', Rz base g outer e di news h' → g.UpToSlots h' → Q () { s' with heap := h' }) : wpAny M A (leaving env (.ref e)) Q E s' := by
  have P := pushX B F hf hk
  have he := N _ (.head _)
  have hin : ∀ x ∈ (env :: outer), ∀ b, x.frame = some b → b ∈ e :: (env :: outer).filterMap (·.frame) := fun x hx b hb => .tail _ (List.mem_filterMap.mpr ⟨x, hx, hb⟩)
  have off : ∀ b o, base.get? b = some o → b ∉ e :: (env :: outer).filterMap (·.frame) := fun b o q hm => by
    rcases List.mem_cons.mp hm with rfl | hm
    · have := B.stays _ _ q; rw [he.2.2] at this; cases this
    · rw [(P.frames.mem hm).1] at q; cases q
  have st : base.StaysIn (hideAll s'.heap (e :: (env :: outer).filterMap (·.frame))) := fun b o q => hideAll_get _ (P.stays b o q) (off b o q)
  have hl : ∀ q ∈ news, (hideAll s'.heap (e :: (env :: outer).filterMap (·.frame))).get? q.1 = some q.2 ∧ g.get? q.1 = none ∧ base.get? q.1 = none := fun q hq => by
    have z := N q (.tail _ hq)
    refine ⟨hideAll_get _ z.1 fun hm => ?_, z.2.2, fresh_of_stays B.stays z.2.2⟩
    rcases List.mem_cons.mp hm with hm | hm
    · exact hne q hq hm
    · rcases frame_mem hf hm with hm | hm
      · exact z.2.1 hm
      · obtain ⟨_, o, ho, _⟩ := B.frames.mem hm
        rw [z.2.2] at ho; cases ho
  have sg : ∀ b o, g.get? b = some o → b ∉ outer.filterMap (·.frame) → (hideAll s'.heap (e :: (env :: outer).filterMap (·.frame))).get? b = some o := fun b o q nm => hideAll_get _ (F.keep b o q) fun hm => by
    rcases List.mem_cons.mp hm with rfl | hm
    · rw [he.2.2] at q; cases q
    · rcases frame_mem hf hm with rfl | hm
      · rw [kts_self F] at q; cases q
      · exact nm hm
  refine leaveD_new (base := hideAll s'.heap (e :: (env :: outer).filterMap (·.frame))) hfr (funFrames_hide P.frames hin) hf he.1 (fun b o q => of_hideAll _ q) (hideAll_none _ (.head _)) rfl fun h' x u => hQ h' ⟨_, st, sg, hl, x⟩ ((Heap.UpToSlots.of_keeps F.keep).trans u)
theorem leaveZ_on {g₂ : Heap} (hfr : A.frames = some (env :: outer)) (hf : env.frame = some L) (F : Fr g L g₂ m) (R : Rz base g₂ (env :: outer) e di news s'.heap) (u₀ : g₂.UpToSlots s'.heap)
    (hQ : ∀ h', Rz base g outer e di news h' → g.UpToSlots h' → Q () { s' with heap := h' }) : wpAny M A (leaving env (.ref e)) Q E s' := by
  obtain ⟨B, hB, hBG, hl, x⟩ := R
  exact leaveD_on hfr hf x fun h' y u => hQ h' ⟨B, hB, fun b o q nm => hBG b o (F.keep b o q) (fun hm => by
    rcases frame_mem hf hm with rfl | hm
    · rw [kts_self F] at q; cases q
    · exact nm hm), fun q hq => ⟨(hl q hq).1, kts_none F.keep (hl q hq).2.1, (hl q hq).2.2⟩, y⟩ ((Heap.UpToSlots.of_keeps F.keep).trans (u₀.trans u))
theorem raise_Z {x : Sem Value} {KF : Frag} {Q : Flow → Shared → Prop} {s : Shared} (q : ktsIn KF 41 "BaseException" = true) (hh : A.handled = none)
    (h : wpAny M A x (fun v s₁ => ∃ e t di, v = .ref e ∧ KF.In s₁.heap ∧ s₁.heap.get? e = some (excO 41 t (some di)) ∧ E (.ref e) s₁) E s) :
    wpAny M A (raiseStmt env (some x) none) Q E s := by
  unfold raiseStmt
  refine wpAny_bind (wpAny_mono h (fun v s₁ h₁ => ?_) fun _ _ x => x)
  obtain ⟨e, t, di, rfl, X, he, hE⟩ := h₁
  obtain ⟨hp, g, d, tk, os⟩ := s₁
  obtain ⟨nm, q', N, bs, bm, hdct, sn, sub, ab, col, dd, k0, k1, k2, k3, k5, newId, hC, hbase, _⟩ := kts_cls X q
  have hb : (Value.ref 41 :: bm).contains (.type "BaseException") = true := by rw [List.contains_cons, hbase, Bool.or_true]
  repeat (first | with_reducible refine wpAny_loadPart_at he ?_ | with_reducible refine wpAny_loadPart_at hC ?_ | (with_reducible refine wpAny_isSubtype_exc hC ?_; rw [hb]) | wp_step)
  exact wpAny_raiseNew_none hh hE
end
section
variable {prog : Program} {w : World} {A₀ : Around} {E : Value → Shared → Prop} {s' : Shared} {base g G : Heap} {outer : List Env} {L a e di : Addr} {m : Str → Option Value} {name : Str} {scope : Scope} {cd : Value}
  {n : Str} {b₀ : Stmt} {suite : List Stmt} {pos np : Pos} {rest : List ExceptHandler} {Q : Flow → Shared → Prop} {news : Led} {KF : Frag} {p : Program} {loose : List Str} {mean : ExcName → Option Value} {mg mb : Str → Option Value} {x : Str}
theorem caughtZ (R : Rz base G (envOf name scope L a cd :: outer) e di news s'.heap) (F : Fr g L G m) (K : Below A₀ base outer g) (hsm : G.UpToSlots s'.heap) (XB : KF.In base) (TB : Top p loose mean mg mb base)
    (ex : nsIn KF mainGlobals x = some (some (.ref 41))) (q : ktsIn KF 41 "BaseException" = true)
    (k : ∀ h' g' vs tk, KtsTurn (outer.filterMap (·.frame)) g g' → Fr g' L h' (fun y => if y = n then some (.ref e) else m y) → News g' L h' ((e, fldO 41 (some di) vs) :: news) → Below A₀ base outer g' → KF.In g' → Top p loose mean mg mb g' →
      wpAny (model prog w) ((A₀.deeper (envOf name scope L a cd)).mark (some (.ref e))) (execs (b₀ :: suite) (envOf name scope L a cd))
        (fun f s₄ => wpAny (model prog w) (A₀.deeper (envOf name scope L a cd)) (do bindName (envOf name scope L a cd) n .none; unbindBehindTheSuite (envOf name scope L a cd) n pos) (fun _ s₅ => Q f s₅) E s₄)
        (AsSuiteRaised (model prog w) ((A₀.deeper (envOf name scope L a cd)).mark (some (.ref e))) (envOf name scope L a cd) n pos (notedBy (model prog w) ((A₀.deeper (envOf name scope L a cd)).mark (some (.ref e))) (envOf name scope L a cd) (cameBackBy (model prog w) (A₀.deeper (envOf name scope L a cd)) (envOf name scope L a cd) E)))
        { s' with heap := h', toks := tk })
    (hk : scope.kind = .function := by rfl) (hlo : (envOf name scope L a cd).kindOf n = some .local := by rfl) (hx : (envOf name scope L a cd).kindOf x = some .globalImplicit := by rfl) (hd : (x == ("__debug__" : Str)) = false := by decide) :
    wpAny (model prog w) (A₀.deeper (envOf name scope L a cd)) (noteFrame (.ref e) (envOf name scope L a cd))
      (fun _ s₂ => wpAny (model prog w) (A₀.deeper (envOf name scope L a cd)) (setFlight (.ref e) none) (fun _ s₃ =>
        wpAny (model prog w) (A₀.deeper (envOf name scope L a cd)) (handleBy (.ref e) (envOf name scope L a cd) (.ExceptHandler (some (.Name x np)) (some n) (b₀ :: suite) pos :: rest)) Q E s₃) E s₂) E s' := by
  refine let_G ?_; intro G1
  obtain ⟨B, hB, hBG, hl, x0⟩ := R
  have hL : B.get? L = none := by
    obtain ⟨_, ⟨L', _, hf, hn', _⟩, _⟩ := x0.frames
    obtain rfl : L = L' := Option.some.inj hf
    exact hn'
  refine noteD_on (Around.frames_deeper K.stack) rfl x0 fun h₄ u₄ => ?_
  refine landD (u₄.fly x0.new) fun h₅ u₅ => ?_
  have x5 := u₅.fly x0.new
  have hsm₅ := u₄.slots.trans u₅.slots
  refine let_G ?_; intro G2
  obtain ⟨g₅, T₅, F₅, K₅⟩ := kts_ground K F hBG x5.stays (hsm.trans hsm₅)
  have X₅ : KF.In g₅ := XB.keeps K₅.stays
  have P₅ : TopRead p loose mg mb g₅ := topRead_of (TB.keeps K₅.stays)
  obtain ⟨nm, q', N, bs, bm, hdct, sn, sub, ab, col, dd, k0, k1, k2, k3, k5, newId, hC, hbase, hbT⟩ := kts_cls X₅ q
  have hC₅ := F₅.keep _ _ hC
  refine wpAny_handleBy_cons (codeAny_handlers_test (name_K F₅ X₅ P₅ ex ?_ hk hx hd)) (by intro q; cases q)
  refine let_G ?_; intro G3
  obtain ⟨vs5, _, _, _, he5, _⟩ := id x5.tr
  refine wpAny_excMatches_sub_self hC₅ he5 rfl hbase (codeAny_handlers_suite_as ?_)
  refine landD x5 fun h₆ u₆ => ?_
  have hsm₆ := hsm₅.trans u₆.slots
  refine let_G ?_; intro G4
  obtain ⟨g₆, T₆, F₆, K₆⟩ := kts_ground K F hBG u₆.stays (hsm.trans hsm₆)
  obtain ⟨vs6, _, _, _, he6, _⟩ := id u₆.tr
  have ne₆ : g₆.get? e = none := T₆.none_ _ (kts_fresh F hBG x0.new fun o ho m => by
    obtain ⟨_, o', ho', hd⟩ := K.frames.mem m
    rw [ho] at ho'
    cases ho'
    obtain ⟨sl, hs⟩ := (hsm.trans hsm₆) _ _ (F.keep _ _ ho) hd
    rw [he6] at hs
    obtain ⟨oc, od, odt, osl⟩ := o
    have hdt : odt = .fields vs6 := by
      injection hs with hs
      injection hs with _ _ h3 _
      exact h3.symm
    exact hd vs6 hdt)
  have heL : e ≠ L := fun q => by
    have := u₆.frames
    obtain ⟨_, ⟨L', o, hf, _, ho, hnf⟩, _⟩ := this
    obtain rfl : L = L' := Option.some.inj hf
    rw [← q, he6] at ho
    cases ho
    exact hnf vs6 rfl
  have Nl : News g₆ L h₆ ((e, fldO 41 (some di) vs6) :: news) := fun q hq => by
    rcases List.mem_cons.mp hq with rfl | hq
    · exact ⟨he6, heL, ne₆⟩
    · exact ⟨u₆.stays _ _ (hl q hq).1, (fun z => by have := (hl q hq).1; rw [z, hL] at this; cases this), T₆.none_ _ (kts_none F.keep (hl q hq).2.1)⟩
  refine stN F₆ Nl (fun h₇ F₇ N₇ => ?_) hk hlo
  exact k h₇ g₆ vs6 _ T₆ F₇ N₇ K₆ (XB.keeps K₆.stays) (TB.keeps K₆.stays)
end
end
section
noncomputable abbrev codeD (w : World) (c : Str) (told : Value) (k1 k2 k3 : Tok) : Obj := dictOf [⟨PyData.keyHash w.params "code", .str "code" k1, .str c k2⟩, ⟨PyData.keyHash w.params "told", .str "told" k3, told⟩] 2
noncomputable def OutE (w : World) (base h₀ : Heap) (L : Addr) (m : Str → Option Value) (l : List Env) (s : Shared) (E : Value → Shared → Prop) (PostE : Str → Led → Prop) : Prop :=
  ∀ c told k1 k2 k3 e di news' h' tk' G, PostE c news' → Fr h₀ L G m → Rz base G l e di ((di, codeD w c told k1 k2 k3) :: news') h' → G.UpToSlots h' → E (.ref e) { s with heap := h', toks := tk' }
noncomputable def OutV (h₀ : Heap) (L : Addr) (m : Str → Option Value) (s : Shared) (Q : Value → Shared → Prop) (Post : Value → Led → Prop) : Prop :=
  ∀ v news' h' tk', Post v news' → Fr h₀ L h' m → News h₀ L h' news' → Q v { s with heap := h', toks := tk' }
noncomputable def Spec (w : World) (f : Addr) (vs : List Value) (d : Nat) (news : Led) (Post : Value → Led → Prop) (PostE : Str → Led → Prop) : Prop :=
  ∀ (p : Program) (loose : List Str) (mean : ExcName → Option Value) (mg mb : Str → Option Value) (dp un : Nat) (gd : Option (List Code)) (cn : Str) (cs : Scope) (a : Addr) (ccd : Value) (cl : List (Str × Addr)) (outer : List Env) (A₀ : Around) (base h₀ : Heap) (L : Addr) (m : Str → Option Value) (s : Shared) (Q E : Value → Shared → Prop),
    Below A₀ base outer h₀ → Fr h₀ L s.heap m → (K w.params).In h₀ → News h₀ L s.heap news → Top p loose mean mg mb h₀ → cs.kind = .function → dp + d < recursionLimit → un + 8 * d < cLine →
    OutV h₀ L m s Q Post → OutE w base h₀ L m (envX cn cs L a ccd cl :: outer) s E PostE →
    wpAny (model PySem.Challenge.rw_pf0018_01.row.prog w) (ktrTop dp un gd cn cs L a ccd cl outer) (call (.ref f) vs) Q E s
section
variable {w : World} {A : Around} {E : Value → Shared → Prop} {s : Shared} {env : Env} {Q : Flow → Shared → Prop}
theorem exec_raise_Z {x : Expr} {pos : Pos} (hh : A.handled = none)
    (h : wpAny (model PySem.Challenge.rw_pf0018_01.row.prog w) A (eval x env) (fun v s₁ => ∃ e t di, v = .ref e ∧ (K w.params).In s₁.heap ∧ s₁.heap.get? e = some (excO 41 t (some di)) ∧ E (.ref e) s₁) E s) :
    wpAny (model PySem.Challenge.rw_pf0018_01.row.prog w) A (exec (.Raise (some x) none pos) env) Q E s := by
  rw [arm_exec_Raise]
  refine wpAny_bind (wpAny_standAt (raise_Z (KF := K w.params) (by rfl) hh (wpAny_bind (wpAny_mono h (fun v s₁ h₁ => wpAny_bind (wpAny_standAt (wpAny_pure h₁))) fun _ _ x => x))))
end
noncomputable abbrev tupOf (l : List Value) (n : Nat) : Obj := { cls := .type "tuple", data := .seq l.toArray n }
section
variable {w : World} {p : Program} {loose : List Str} {mean : ExcName → Option Value} {mg mb : Str → Option Value} {dp un : Nat} {gd : Option (List Code)} {cn : Str} {cs : Scope} {a : Addr} {ccd : Value} {cl : List (Str × Addr)} {outer : List Env} {A₀ : Around} {base h₀ : Heap} {L : Addr} {m : Str → Option Value} {s : Shared} {Q E : Value → Shared → Prop}
theorem Spec.use {f : Addr} {vs : List Value} {d : Nat} {news : Led} {Post : Value → Led → Prop} {PostE : Str → Led → Prop} (H : Spec w f vs d news Post PostE)
    (B : Below A₀ base outer h₀) (F : Fr h₀ L s.heap m) (X : (K w.params).In h₀) (N : News h₀ L s.heap news) (T : Top p loose mean mg mb h₀) (hk : cs.kind = .function) (hd : dp + d < recursionLimit) (hu : un + 8 * d < cLine)
    (ret : OutV h₀ L m s Q Post) (out : OutE w base h₀ L m (envX cn cs L a ccd cl :: outer) s E PostE) :
    wpAny (model PySem.Challenge.rw_pf0018_01.row.prog w) (ktrTop dp un gd cn cs L a ccd cl outer) (call (.ref f) vs) Q E s :=
  H _ _ _ _ _ _ _ _ _ _ _ _ _ _ _ _ _ _ _ _ _ _ B F X N T hk hd hu ret out
theorem OutE.none {l : List Env} : OutE w base h₀ L m l s E (fun _ _ => False) := fun _ _ _ _ _ _ _ _ _ _ _ h => h.elim
theorem Made.use {vs : List Value} {c told : Value} {news : Led} (H : Made w vs c told)
    (B : Below A₀ base outer h₀) (F : Fr h₀ L s.heap m) (X : (K w.params).In h₀) (N : News h₀ L s.heap news) (T : Top p loose mean mg mb h₀) (hk : cs.kind = .function) (hd : dp + 2 < recursionLimit) (hu : un + 16 < cLine)
    (ret : ∀ (e di t : Nat) (k1 k2 : Tok) h' tk', Fr h₀ L h' m → News h₀ L h' ((e, excO 41 t (some di)) :: (di, dictOf [⟨PyData.keyHash w.params "code", .str "code" k1, c⟩, ⟨PyData.keyHash w.params "told", .str "told" k2, told⟩] 2) :: news) →
      (∀ p ∈ ((di, dictOf [⟨PyData.keyHash w.params "code", .str "code" k1, c⟩, ⟨PyData.keyHash w.params "told", .str "told" k2, told⟩] 2) :: news), p.1 ≠ e) → Q (.ref e) { s with heap := h', toks := tk' }) :
    wpAny (model PySem.Challenge.rw_pf0018_01.row.prog w) (ktrTop dp un gd cn cs L a ccd cl outer) (call (.ref 41) vs) Q E s :=
  H _ _ _ _ _ _ _ _ _ _ _ _ _ _ _ _ _ _ _ _ _ _ _ B F X N T hk hd hu fun e di t k1 k2 h' tk' F' N' l1 _ l3 => ret e di t k1 k2 h' tk' F' N' fun p hp => by
    rcases List.mem_cons.mp hp with rfl | hp
    · exact Nat.ne_of_gt l3
    · exact Nat.ne_of_lt (ktn_ltOf l1 p hp)
end
inductive GotI (st : Led) (x : Int) : Value → Led → Prop | mk (k : Tok) : GotI st x (.int x k) st
inductive GotS (st : Led) (x : Str) : Value → Led → Prop | mk (k : Tok) : GotS st x (.str x k) st
theorem GotI.of {st : Led} {x y : Int} {k : Tok} (h : y = x) : GotI st x (.int y k) st := by subst h; exact .mk k
end
section
section
variable {M : Model} {A : Around} {E : Value → Shared → Prop} {env : Env} {Q : Value → Shared → Prop} {h h₀ : Heap} {g : Array GenState} {d : Drawn} {k : Nat} {o : OsState} {L : Addr} {m : Str → Option Value} {news : Led}
theorem tk_int {i : Int} {kk : Nat} {pos : Pos} (H : ∀ t tk : Nat, Q (.int i t) ⟨h, g, d, tk, o⟩) : wpAny M A (eval (.Constant (.int i) kk pos) env) Q E ⟨h, g, d, k, o⟩ := wpAny_Constant_int (H _ _)
theorem tk_str {x : Str} {kk : Nat} {pos : Pos} (H : ∀ t tk : Nat, Q (.str x t) ⟨h, g, d, tk, o⟩) : wpAny M A (eval (.Constant (.str x) kk pos) env) Q E ⟨h, g, d, k, o⟩ := Calls.Constant_str (H _ _)
theorem tk_tup {vs : List Value} (F : Fr h₀ L h m) (N : News h₀ L h news)
    (H : ∀ D h', Fr h₀ L h' m → News h₀ L h' ((D, ({ cls := .type "tuple", data := .seq vs.toArray } : Obj)) :: news) → (∀ p ∈ news, p.1 < D) → Q (.ref D) ⟨h', g, d, k, o⟩) (hz : vs.length ≤ sizeLine) : wpAny M A (newTuple vs) Q E ⟨h, g, d, k, o⟩ :=
  kup_newTuple (s := ⟨h, g, d, k, o⟩) F N H hz
theorem tk_list {vs : List Value} (F : Fr h₀ L h m) (N : News h₀ L h news)
    (H : ∀ l h', Fr h₀ L h' m → News h₀ L h' ((l, listOf vs.toArray 0) :: news) → (∀ p ∈ news, p.1 < l) → Q (.ref l) ⟨h', g, d, k, o⟩) (hz : vs.length ≤ sizeLine) : wpAny M A (newList vs) Q E ⟨h, g, d, k, o⟩ :=
  newList_K (s := ⟨h, g, d, k, o⟩) F N H hz
theorem tk_store {cn : Str} {cs : Scope} {a : Addr} {ccd : Value} {cl : List (Str × Addr)} {x : Str} {v : Value} {Q : Unit → Shared → Prop} (F : Fr h₀ L h m) (N : News h₀ L h news)
    (H : ∀ h' tk, Fr h₀ L h' (fun y => if y = x then some v else m y) → News h₀ L h' news → Q () ⟨h', g, d, tk, o⟩)
    (hk : cs.kind = .function := by rfl) (hx : (envX cn cs L a ccd cl).kindOf x = some .local := by rfl) : wpAny M A (storeName (envX cn cs L a ccd cl) x v) Q E ⟨h, g, d, k, o⟩ :=
  storeX_L (s := ⟨h, g, d, k, o⟩) F N (fun h' F' N' => H h' _ F' N') hk hx
end
section
variable {w : World} {p : Program} {loose : List Str} {mean : ExcName → Option Value} {mg mb : Str → Option Value} {dp un : Nat} {gd : Option (List Code)} {cn : Str} {cs : Scope} {a : Addr} {ccd : Value} {cl : List (Str × Addr)} {outer : List Env} {A₀ : Around} {base h₀ : Heap} {L : Addr} {m : Str → Option Value} {Q E : Value → Shared → Prop} {h : Heap} {g : Array GenState} {dr : Drawn} {k : Nat} {o : OsState}
theorem Spec.use' {f : Addr} {vs : List Value} {d : Nat} {news : Led} {Post : Value → Led → Prop} {PostE : Str → Led → Prop} (H : Spec w f vs d news Post PostE)
    (B : Below A₀ base outer h₀) (F : Fr h₀ L h m) (X : (K w.params).In h₀) (N : News h₀ L h news) (T : Top p loose mean mg mb h₀) (hk : cs.kind = .function) (hd : dp + d < recursionLimit) (hu : un + 8 * d < cLine)
    (ret : ∀ v news' h' tk', Post v news' → Fr h₀ L h' m → News h₀ L h' news' → Q v ⟨h', g, dr, tk', o⟩) (out : OutE w base h₀ L m (envX cn cs L a ccd cl :: outer) ⟨h, g, dr, k, o⟩ E PostE) :
    wpAny (model PySem.Challenge.rw_pf0018_01.row.prog w) (ktrTop dp un gd cn cs L a ccd cl outer) (call (.ref f) vs) Q E ⟨h, g, dr, k, o⟩ :=
  H _ _ _ _ _ _ _ _ _ _ _ _ _ _ _ _ _ _ _ _ _ _ B F X N T hk hd hu ret out
end
theorem ne_gt {D a : Nat} {o : Obj} {l : Led} (h : ∀ p ∈ l, @LT.lt Nat _ p.1 D) (hm : (a, o) ∈ l) : D ≠ a := Nat.ne_of_gt (h _ hm)
theorem ne_lt {D a : Nat} {o : Obj} {l : Led} (h : ∀ p ∈ l, @LT.lt Nat _ p.1 D) (hm : (a, o) ∈ l) : a ≠ D := Nat.ne_of_lt (h _ hm)
section
variable {w : World} {p : Program} {loose : List Str} {mean : ExcName → Option Value} {mg mb : Str → Option Value} {dp un : Nat} {gd : Option (List Code)} {cn : Str} {cs : Scope} {a : Addr} {ccd : Value} {cl : List (Str × Addr)} {outer : List Env} {A₀ : Around} {base h₀ : Heap} {L : Addr} {m : Str → Option Value} {Q E : Value → Shared → Prop} {h : Heap} {g : Array GenState} {dr : Drawn} {k : Nat} {o : OsState}
theorem Spec.useK {f : Addr} {vs : List Value} {d : Nat} {news : Led} {Post : Value → Led → Prop} {PostE : Str → Led → Prop} (H : Spec w f vs d news Post PostE)
    (B : Below A₀ base outer h₀) (F : Fr h₀ L h m) (X : (K w.params).In h₀) (N : News h₀ L h news) (T : Top p loose mean mg mb h₀) (hk : cs.kind = .function) (hd : dp + d < recursionLimit) (hu : un + 8 * d < cLine)
    (ret : ∀ K : Value → Heap → Nat → Prop, (∀ v h' tk', Q v ⟨h', g, dr, tk', o⟩ → K v h' tk') → ∀ v news' h' tk', Post v news' → Fr h₀ L h' m → News h₀ L h' news' → K v h' tk') (out : OutE w base h₀ L m (envX cn cs L a ccd cl :: outer) ⟨h, g, dr, k, o⟩ E PostE) :
    wpAny (model PySem.Challenge.rw_pf0018_01.row.prog w) (ktrTop dp un gd cn cs L a ccd cl outer) (call (.ref f) vs) Q E ⟨h, g, dr, k, o⟩ :=
  H _ _ _ _ _ _ _ _ _ _ _ _ _ _ _ _ _ _ _ _ _ _ B F X N T hk hd hu (fun v n h' tk' => ret (fun v h' tk' => Q v ⟨h', g, dr, tk', o⟩) (fun _ _ _ x => x) v n h' tk') out
end
theorem hd_ok {dp d k N : Nat} (h : dp + d < N) (e : Nat.ble (1 + k) d = true) : dp + 1 + k < N := Nat.lt_of_le_of_lt (by rw [Nat.add_assoc]; exact Nat.add_le_add_left (Nat.le_of_ble_eq_true e) dp) h
theorem hu_ok {un d k N : Nat} (h : un + 8 * d < N) (e : Nat.ble (3 + 8 * k) (8 * d) = true) : un + 3 + 8 * k < N := Nat.lt_of_le_of_lt (by rw [Nat.add_assoc]; exact Nat.add_le_add_left (Nat.le_of_ble_eq_true e) un) h
theorem hd_le {dp d k N : Nat} (h : dp + d < N) (e : Nat.ble k d = true) : dp + k < N := Nat.lt_of_le_of_lt (Nat.add_le_add_left (Nat.le_of_ble_eq_true e) dp) h
theorem hu_le {un d k N : Nat} (h : un + 8 * d < N) (e : Nat.ble (8 * k) (8 * d) = true) : un + 8 * k < N := Nat.lt_of_le_of_lt (Nat.add_le_add_left (Nat.le_of_ble_eq_true e) un) h
theorem hd_lt {dp d N : Nat} (h : dp + d < N) : dp < N := Nat.lt_of_le_of_lt (Nat.le_add_right dp d) h
theorem name_shape {e : Expr} {x : Str} (h : nameOf? e = some x) : ∃ p, e = .Name x p := by
  cases e <;> first | (cases h; done) | (cases h; exact ⟨_, rfl⟩)
noncomputable def loc9 (m : Str → Option Value) (env : Env) (x : Str) : Option Value := bif (x == "__debug__") || !(env.kindOf x == some .local) then none else m x
noncomputable def locs9 (m : Str → Option Value) (env : Env) (es : List Expr) : Option (List Value) := es.foldr (fun e r => (nameOf? e).bind fun x => (loc9 m env x).bind fun v => r.map (v :: ·)) (some [])
section
variable {prog : Program} {w : World} {A : Around} {E : Value → Shared → Prop} {s : Shared} {h₀ : Heap} {L a : Addr} {m : Str → Option Value} {cn : Str} {cs : Scope} {ccd : Value} {cl : List (Str × Addr)} {pos : Pos}
theorem args_locs (F : Fr h₀ L s.heap m) (hk : cs.kind = .function) {es : List Expr} : ∀ {vs : List Value} {Q : List Value → Shared → Prop}, locs9 m (envX cn cs L a ccd cl) es = some vs → Q vs s →
    wpAny (model prog w) A (spliced (backTo pos (starEach es (envX cn cs L a ccd cl)))) Q E s := by
  induction es with
  | nil =>
    intro vs Q h hQ
    obtain rfl : [] = vs := Option.some.inj h
    exact args_nil hQ
  | cons e r ih =>
    intro vs Q h hQ
    obtain ⟨x, hx, h⟩ := Option.bind_eq_some_iff.mp h
    obtain ⟨v, hv, h⟩ := Option.bind_eq_some_iff.mp h
    obtain ⟨us, h3, rfl⟩ := Option.map_eq_some_iff.mp h
    obtain ⟨p, rfl⟩ := name_shape hx
    unfold loc9 at hv
    cases h1 : (x == ("__debug__" : Str)) with
    | true => rw [h1] at hv; cases hv
    | false =>
      cases h2 : ((envX cn cs L a ccd cl).kindOf x == some .local) with
      | false => rw [h1, h2] at hv; cases hv
      | true =>
        rw [h1, h2] at hv
        exact args_cons (nameX_L F hv (ih h3 hQ) hk (eq_of_beq h2) h1)
end
section
variable {prog : Program} {w : World} {A : Around} {E : Value → Shared → Prop} {h₀ h : Heap} {L a : Addr} {m : Str → Option Value} {cn : Str} {cs : Scope} {ccd : Value} {cl : List (Str × Addr)} {g : Array GenState} {d : Drawn} {k : Nat} {o : OsState}
theorem loc_name {x : Str} {v : Value} {pos : Pos} {s : Shared} {Q : Value → Shared → Prop} (F : Fr h₀ L s.heap m) (hk : cs.kind = .function) (hv : loc9 m (envX cn cs L a ccd cl) x = some v) (H : Q v s) : wpAny (model prog w) A (eval (.Name x pos) (envX cn cs L a ccd cl)) Q E s := by
  unfold loc9 at hv
  cases h1 : (x == ("__debug__" : Str)) with
  | true => rw [h1] at hv; cases hv
  | false =>
    cases h2 : ((envX cn cs L a ccd cl).kindOf x == some .local) with
    | false => rw [h1, h2] at hv; cases hv
    | true =>
      rw [h1, h2] at hv
      exact nameX_L F hv H hk (eq_of_beq h2) h1
theorem test_eq {x b y : Str} {t kk : Nat} {p1 p2 p3 : Pos} {r : Bool} {whole : Sem Value} {Q : Bool → Shared → Prop} (F : Fr h₀ L h m) (hk : cs.kind = .function) (hv : loc9 m (envX cn cs L a ccd cl) x = some (.str y t)) (e : (y == b) = r) (H : ∀ tk, Q r ⟨h, g, d, tk, o⟩) :
    wpAny (model prog w) A (isTrue (.Compare (.Name x p1) [.Eq] [.Constant (.str b) kk p2] p3) (envX cn cs L a ccd cl) whole) Q E ⟨h, g, d, k, o⟩ :=
  wpAny_isTrue_Compare1 (loc_name (s := ⟨h, g, d, k, o⟩) F hk hv (Calls.Constant_str (eq_str (wpAny_truthy_bool (by rw [e]; exact H _)))))
end
theorem hu_s1 {un d j N : Nat} (h : un + 8 * d < N) (e : Nat.ble j (8 * d) = true) : un + j < N := Nat.lt_of_le_of_lt (Nat.add_le_add_left (Nat.le_of_ble_eq_true e) un) h
theorem hu_s2 {un d i j N : Nat} (h : un + 8 * d < N) (e : Nat.ble (i + j) (8 * d) = true) : un + i + j < N := by rw [Nat.add_assoc]; exact hu_s1 h e
theorem hu_s3 {un d i j l N : Nat} (h : un + 8 * d < N) (e : Nat.ble (i + j + l) (8 * d) = true) : un + i + j + l < N := by rw [Nat.add_assoc, Nat.add_assoc, ← Nat.add_assoc i]; exact hu_s1 h e
theorem q_le0 {q m N : Nat} (h : q ≤ m) (e : Nat.ble m N = true) : q ≤ N := Nat.le_trans h (Nat.le_of_ble_eq_true e)
theorem q_le1 {q m i N : Nat} (h : q ≤ m) (e : Nat.ble (m + i) N = true) : q + i ≤ N := Nat.le_trans (Nat.add_le_add_right h i) (Nat.le_of_ble_eq_true e)
theorem q_up1 {q i j : Nat} (e : Nat.ble i j = true) : q + i ≤ q + j := Nat.add_le_add_left (Nat.le_of_ble_eq_true e) q
theorem q_up2 {q i i' j : Nat} (e : Nat.ble (i + i') j = true) : q + i + i' ≤ q + j := by rw [Nat.add_assoc]; exact q_up1 e
theorem ne0 {a : Nat} : a ∉ ([] : List Nat) := List.not_mem_nil
theorem ne1 {a b : Nat} (h : a ≠ b) : a ∉ [b] := fun hm => h (List.mem_singleton.mp hm)
theorem ne2 {a b c : Nat} (h : a ≠ b ∧ a ≠ c) : a ∉ [b, c] := fun hm => (List.mem_cons.mp hm).elim h.1 fun hm => h.2 (List.mem_singleton.mp hm)
theorem News.drop {h₀ h : Heap} {L : Addr} {x : Addr × Obj} {l : Led} (N : News h₀ L h (x :: l)) : News h₀ L h l := fun p hp => N p (.tail _ hp)
theorem tk_gen {α : Type} {M : Model} {A : Around} {t : Sem α} {Q : α → Shared → Prop} {E : Value → Shared → Prop} {h : Heap} {g : Array GenState} {d : Drawn} {k : Nat} {o : OsState} (H : ∀ k, wpAny M A t Q E ⟨h, g, d, k, o⟩) : wpAny M A t Q E ⟨h, g, d, k, o⟩ := H k
section
variable {prog : Program} {w : World} {A : Around} {E : Value → Shared → Prop} {Kf : Frag} {x C dx L : Addr} {h₀ h : Heap} {m : Str → Option Value} {news news' : Led} {ox : Obj} {es es' : List DictEntry} {n n' : Nat} {name : Str} {v : Value} {g : Array GenState} {dr : Drawn} {k : Nat} {o : OsState}
theorem tk_set {Q : Unit → Shared → Prop} (F : Fr h₀ L h m) (X₀ : Kf.In h₀) (N : News h₀ L h news) (I : InstAt h x ox C (some (dictOf es n))) (hd : ox.dict = some dx)
    (hs : findIn Kf (.ref C) "__setattr__" = some (some (.builtin "object.__setattr__"))) (hp : plainOver Kf C = true) (ht : takerIn Kf C name = some none) (hh : hasDictIn Kf C = true) (hl : (getL name es).isSome = true)
    (e : (putL name (PyData.keyHash w.params name) (.str name (k + 1)) v es, putN name es n) = (es', n')) (U : Upd dx (dictOf es n) (dictOf es' n') news news') (hz : es'.length ≤ 1000)
    (H : ∀ h' tk, Fr h₀ L h' m → News h₀ L h' news' → Q () ⟨h', g, dr, tk, o⟩) : wpAny (model prog w) A (setAttr (.ref x) name v) Q E ⟨h, g, dr, k, o⟩ :=
  set_dict (s := ⟨h, g, dr, k, o⟩) F X₀ N I hd hs hp ht hh hl e U hz fun h' F' N' => H h' _ F' N'
end
end
section
theorem Spec.intro {w : World} {f : Addr} {vs : List Value} {d : Nat} {news : Led} {Post : Value → Led → Prop} {PostE : Str → Led → Prop}
  (H : ∀ (p : Program) (loose : List Str) (mean : ExcName → Option Value) (mg mb : Str → Option Value) (dp un : Nat) (gd : Option (List Code)) (cn : Str) (cs : Scope) (a : Addr) (ccd : Value) (cl : List (Str × Addr)) (outer : List Env) (A₀ : Around) (base h₀ : Heap) (L : Addr) (m : Str → Option Value) (h : Heap) (g : Array GenState) (dr : Drawn) (k : Nat) (o : OsState) (Q E : Value → Shared → Prop),
    Below A₀ base outer h₀ → Fr h₀ L h m → (K w.params).In h₀ → News h₀ L h news → Top p loose mean mg mb h₀ → cs.kind = .function → dp + d < recursionLimit → un + 8 * d < cLine →
    OutV h₀ L m ⟨h, g, dr, k, o⟩ Q Post → OutE w base h₀ L m (envX cn cs L a ccd cl :: outer) ⟨h, g, dr, k, o⟩ E PostE →
    wpAny (model PySem.Challenge.rw_pf0018_01.row.prog w) (ktrTop dp un gd cn cs L a ccd cl outer) (call (.ref f) vs) Q E ⟨h, g, dr, k, o⟩) : Spec w f vs d news Post PostE := by
  intro p loose mean mg mb dp un gd cn cs a ccd cl outer A₀ base h₀ L m s Q E
  obtain ⟨h, g, dr, k, o⟩ := s
  exact H p loose mean mg mb dp un gd cn cs a ccd cl outer A₀ base h₀ L m h g dr k o Q E
noncomputable def Seq9 (M : Model) (A : Around) (rest : List Stmt) (env : Env) (Q : Flow → Shared → Prop) (E : Value → Shared → Prop) : Flow → Shared → Prop
  | .next, s => wpAny M A (execs rest env) Q E s
  | f, s => Q f s
section
variable {M : Model} {A : Around} {E : Value → Shared → Prop} {env : Env} {h h₀ : Heap} {g : Array GenState} {d : Drawn} {k : Nat} {o : OsState} {L : Addr} {m : Str → Option Value} {news : Led}
theorem let_Q {α : Type} {t : Sem α} {Q : α → Shared → Prop} {s : Shared} (H : let q9 := Q; wpAny M A t q9 E s) : wpAny M A t Q E s := H
theorem tl_cons {st : Stmt} {rest : List Stmt} {Q : Flow → Shared → Prop} {s : Shared} (H : let q9 := Seq9 M A rest env Q E; wpAny M A (exec st env) q9 E s) : wpAny M A (execs (st :: rest) env) Q E s :=
  wpAny_execs_cons (wpAny_mono H (fun fl _ h => by cases fl <;> exact h) fun _ _ e => e)
theorem seq_next {rest : List Stmt} {Q : Flow → Shared → Prop} {s : Shared} (H : wpAny M A (execs rest env) Q E s) : Seq9 M A rest env Q E .next s := H
theorem seq_ret {rest : List Stmt} {Q : Flow → Shared → Prop} {s : Shared} {v : Value} (H : Q (.ret v) s) : Seq9 M A rest env Q E (.ret v) s := H
theorem seq_brk {rest : List Stmt} {Q : Flow → Shared → Prop} {s : Shared} (H : Q .brk s) : Seq9 M A rest env Q E .brk s := H
theorem seq_cont {rest : List Stmt} {Q : Flow → Shared → Prop} {s : Shared} (H : Q .cont s) : Seq9 M A rest env Q E .cont s := H
noncomputable def St9 (s s' : Shared) : Prop := s = s'
theorem st9 {s : Shared} : St9 s s := rfl
theorem tk_st {α : Type} {t : Sem α} {Q : α → Shared → Prop} {s : Shared} (e : St9 s ⟨h, g, d, k, o⟩) (H : ∀ k, wpAny M A t Q E ⟨h, g, d, k, o⟩) : wpAny M A t Q E s := (show s = _ from e) ▸ H k
theorem tl_tup {Q : Value → Shared → Prop} {vs : List Value} (F : Fr h₀ L h m) (N : News h₀ L h news) (hz : vs.length ≤ sizeLine)
    (H : ∀ D h', let n9 := (D, ({ cls := .type "tuple", data := .seq vs.toArray } : Obj)) :: news; Fr h₀ L h' m → News h₀ L h' n9 → (∀ p ∈ news, p.1 < D) → Q (.ref D) ⟨h', g, d, k, o⟩) : wpAny M A (newTuple vs) Q E ⟨h, g, d, k, o⟩ :=
  kup_newTuple (s := ⟨h, g, d, k, o⟩) F N H hz
theorem tl_list {Q : Value → Shared → Prop} {vs : List Value} (F : Fr h₀ L h m) (N : News h₀ L h news) (hz : vs.length ≤ sizeLine)
    (H : ∀ l h', let n9 := (l, listOf vs.toArray 0) :: news; Fr h₀ L h' m → News h₀ L h' n9 → (∀ p ∈ news, p.1 < l) → Q (.ref l) ⟨h', g, d, k, o⟩) : wpAny M A (newList vs) Q E ⟨h, g, d, k, o⟩ :=
  newList_K (s := ⟨h, g, d, k, o⟩) F N H hz
theorem tl_store {cn : Str} {cs : Scope} {a : Addr} {ccd : Value} {cl : List (Str × Addr)} {x : Str} {v : Value} {Q : Unit → Shared → Prop} (F : Fr h₀ L h m) (N : News h₀ L h news)
    (hk : cs.kind = .function) (hx : (envX cn cs L a ccd cl).kindOf x = some .local)
    (H : let m9 := (fun y => if y = x then some v else m y); ∀ h' tk, Fr h₀ L h' m9 → News h₀ L h' news → Q () ⟨h', g, d, tk, o⟩) : wpAny M A (storeName (envX cn cs L a ccd cl) x v) Q E ⟨h, g, d, k, o⟩ :=
  storeX_L (s := ⟨h, g, d, k, o⟩) F N (fun h' F' N' => H h' _ F' N') hk hx
end
section
variable {prog : Program} {w : World} {A A₀ : Around} {h0 : Heap} {g : Array GenState} {d : Drawn} {k : Nat} {o : OsState} {K : Frag} {L : Addr} {h₀ base : Heap} {m mg mb : Str → Option Value} {news : Led} {p : Program} {loose : List Str} {mean : ExcName → Option Value}
theorem tl_enter {env : Env} {outer : List Env} {R : Result → Shared → Prop} {name qual : Str} {params : Arguments} {body : List Stmt} {scope : Scope} {dV kV doc pm cdv ct oc : Value} {an od : Option Addr} {osl : Array (Option Value)} {f : Addr} {args : Args} {binds : List (Str × Value)}
    (hA : A.frames = some (env :: outer)) (hf : env.frame = some L) (hke : env.scope.kind = .function) (B : Below A₀ base outer h₀) (F : Fr h₀ L h0 m) (X₀ : K.In h₀) (N : News h₀ L h0 news) (T : Top p loose mean mg mb h₀)
    (ho : K.lookup f = some ⟨oc, od, .func (fnOf name qual params body scope dV kV doc pm an cdv ct), osl⟩) (hcd : codeIn K cdv qual = true) (hroom : A.depth < recursionLimit)
    (hbind : BindsTo ⟨h0, g, d, k, o⟩ (fnOf name qual params body scope dV kV doc pm an cdv ct) args binds) (hloc : ∀ y ∈ binds, scope.names.lookup y.1 = some .local)
    (hco : scope.isCoroutine = false) (hgen : scope.isGenerator = false) (hk : scope.kind = .function)
    (hcell : ∀ x ∈ scope.names, x.2 ≠ .cell)
    (h : ∀ g' L' h₁ tk, let m9 := (fun y => binds.reverse.lookup y); let env9 := envOf qual scope L' f cdv; let A9 := A.deeper env9;
      let qk := (fun (fl : Flow) (s' : Shared) => LeaveK h₀ L m g' R (match fl with | .ret v => v | _ => .none) s');
      let ek := (fun (e : Value) (s' : Shared) => wpAny (model prog w) A9 (leaving env9 e) (fun _ s'' => R (.error e) s'') (fun e' s'' => R (.error e') s'') s');
      Fr h₀ L g' m → Fr g' L' h₁ m9 → News g' L' h₁ news → Below A base (env :: outer) g' → K.In g' → Top p loose mean mg mb g' →
      wpAny (model prog w) A9 (execs body env9) qk ek ⟨h₁, g, d, tk, o⟩) : codeAny (model prog w) A (.call (.ref f) args) R ⟨h0, g, d, k, o⟩ :=
  code_def B F X₀ N T hA hf hke ho hcd hroom hbind hloc (fun g' L' h₁ => h g' L' h₁ _) hco hgen hk hcell
theorem tl_enterT {dp un : Nat} {gd : Option (List Code)} {cn : Str} {cs : Scope} {a : Addr} {ccd : Value} {cl : List (Str × Addr)} {outer : List Env} {R : Result → Shared → Prop} {name qual : Str} {params : Arguments} {body : List Stmt} {scope : Scope} {dV kV doc pm cdv ct oc : Value} {an od : Option Addr} {osl : Array (Option Value)} {f : Addr} {args : Args} {binds : List (Str × Value)}
    (hke : cs.kind = .function) (B : Below A₀ base outer h₀) (F : Fr h₀ L h0 m) (X₀ : K.In h₀) (N : News h₀ L h0 news) (T : Top p loose mean mg mb h₀)
    (ho : K.lookup f = some ⟨oc, od, .func (fnOf name qual params body scope dV kV doc pm an cdv ct), osl⟩) (hcd : codeIn K cdv qual = true) (hroom : dp < recursionLimit)
    (hbind : BindsTo ⟨h0, g, d, k, o⟩ (fnOf name qual params body scope dV kV doc pm an cdv ct) args binds) (hloc : ∀ y ∈ binds, scope.names.lookup y.1 = some .local)
    (hco : scope.isCoroutine = false) (hgen : scope.isGenerator = false) (hk : scope.kind = .function)
    (hcell : ∀ x ∈ scope.names, x.2 ≠ .cell)
    (h : ∀ g' L' h₁ tk, let m9 := (fun y => binds.reverse.lookup y); let env9 := envX qual scope L' f cdv []; let A9 := ktrTop (dp + 1) (un + 3) gd qual scope L' f cdv [] (envX cn cs L a ccd cl :: outer);
      let qk := (fun (fl : Flow) (s' : Shared) => LeaveK h₀ L m g' R (match fl with | .ret v => v | _ => .none) s');
      let ek := (fun (e : Value) (s' : Shared) => wpAny (model prog w) A9 (leaving env9 e) (fun _ s'' => R (.error e) s'') (fun e' s'' => R (.error e') s'') s');
      Fr h₀ L g' m → Fr g' L' h₁ m9 → News g' L' h₁ news → Below (ktrTop dp un gd cn cs L a ccd cl outer) base (envX cn cs L a ccd cl :: outer) g' → K.In g' → Top p loose mean mg mb g' →
      wpAny (model prog w) A9 (execs body env9) qk ek ⟨h₁, g, d, tk, o⟩) : codeAny (model prog w) (ktrTop dp un gd cn cs L a ccd cl outer) (.call (.ref f) args) R ⟨h0, g, d, k, o⟩ :=
  tl_enter rfl rfl hke B F X₀ N T ho hcd hroom hbind hloc hco hgen hk hcell h
end
end
section
theorem let_A {M : Model} {A : Around} {env : Env} {ss : List Stmt} {Q : Flow → Shared → Prop} {E : Value → Shared → Prop} {s : Shared} (H : let A9 := A; let env9 := env; wpAny M A9 (execs ss env9) Q E s) : wpAny M A (execs ss env) Q E s := H
theorem stripA {f : Value → Shared → Prop} {v : Value} {s : Shared} (h : f v s) : f v s := h
theorem let_all {M : Model} {A : Around} {env : Env} {ss : List Stmt} {Q : Flow → Shared → Prop} {E : Value → Shared → Prop} {s : Shared} (H : let qk := Q; let ek := E; let A9 := A; let env9 := env; wpAny M A9 (execs ss env9) qk ek s) : wpAny M A (execs ss env) Q E s := H
theorem let_m {G : Prop} {h₀ h : Heap} {L : Addr} {m : Str → Option Value} (F : Fr h₀ L h m) (H : let m9 := m; Fr h₀ L h m9 → G) : G := H F
theorem room9 {A : Around} {dp d N : Nat} (k : Nat) (h : dp + d < N) (e : A.depth = dp + k) (le : Nat.ble k d = true) : A.depth < N := e ▸ hd_le h le
section
variable {prog : Program} {w : World} {A : Around} {E : Value → Shared → Prop} {s : Shared} {D : Addr} {h₀ : Heap} {L : Addr} {m : Str → Option Value} {news news' : Led}
theorem append_9 {its : Array Value} {n : Nat} {x : Value} {Q : Value → Shared → Prop} (F : Fr h₀ L s.heap m) (N : News h₀ L s.heap news) (U : Upd D (listOf its n) (listOf (its.push x) (n + 1)) news news') (hsz : its.size ≤ sizeLine)
    (h : ∀ h', Fr h₀ L h' m → News h₀ L h' news' → Q .none { s with heap := h' }) : wpAny (model prog w) A (call (.builtin "list.append") [.ref D, x]) Q E s := append_K F N U h hsz
end
noncomputable def drop9 : Nat → Led → Led
  | 0, l => l
  | _ + 1, [] => []
  | n + 1, _ :: r => drop9 n r
theorem memE {x : Addr × Obj} {st l : Led} (h : x ∈ st) (e : ∃ k, drop9 k l = st) : x ∈ l := by
  obtain ⟨k, e⟩ := e
  subst e
  induction k generalizing l with
  | zero => exact h
  | succ k ih =>
    cases l with
    | nil => exact h
    | cons a r => exact .tail _ (ih h)
noncomputable def at9 : Led → Nat → Option (Addr × Obj)
  | [], _ => none
  | x :: _, 0 => some x
  | _ :: r, n + 1 => at9 r n
theorem mem9 {x : Addr × Obj} : ∀ {l : Led} (i : Nat), at9 l i = some x → x ∈ l
  | [], _, h => nomatch h
  | _ :: _, 0, h => by cases h; exact .head _
  | _ :: _, n + 1, h => .tail _ (mem9 n h)
noncomputable def nmOk (env : Env) (k : NameKind) (x : Str) : Bool := decide (env.scope.kind = .function) && decide (env.kindOf x = some k) && !(x == ("__debug__" : Str))
theorem nmOk.of {env : Env} {k : NameKind} {x : Str} (h : nmOk env k x = true) : env.scope.kind = .function ∧ env.kindOf x = some k ∧ (x == ("__debug__" : Str)) = false := by
  unfold nmOk at h
  simp only [Bool.and_eq_true, decide_eq_true_eq, Bool.not_eq_true'] at h
  exact ⟨h.1.1, h.1.2, h.2⟩
section
variable {M : Model} {A : Around} {E : Value → Shared → Prop} {env : Env} {s : Shared} {h₀ : Heap} {m : Str → Option Value} {x : Str} {pos : Pos} {v : Value} {Q : Value → Shared → Prop}
theorem tl_name (F : Fr h₀ env.locals s.heap m) (hv : m x = some v) (hk : nmOk env .local x = true) (H : Q v s) : wpAny M A (eval (.Name x pos) env) Q E s :=
  let ⟨a, b, c⟩ := nmOk.of hk; wpAny_Name (wpAny_loadName_local a b F.ns hv H) c
end
section
variable {w : World} {A : Around} {E : Value → Shared → Prop} {env : Env} {s : Shared} {h₀ : Heap} {L : Addr} {m mg mb : Str → Option Value} {p : Program} {loose : List Str} {mean : ExcName → Option Value} {x : Str} {pos p1 : Pos} {Q : Value → Shared → Prop} {f : Value} {e : Expr} {rest : List Expr}
theorem tl_callK (F : Fr h₀ L s.heap m) (X : (K w.params).In h₀) (T : Top p loose mean mg mb h₀) (hn : nsIn (K w.params) mainGlobals x = some (some f)) (hk : nmOk env .globalImplicit x = true) (hg : env.globals = mainGlobals) (hf : keepIn (K w.params) f = true)
    (he : starEach (e :: rest) env = (false, eval e env) :: starEach rest env) (hp : (backTo pos (starEach rest env)).any (·.1) = false)
    (H : wpAny (model PySem.Challenge.rw_pf0018_01.row.prog w) A (spliced (backTo pos (starEach (e :: rest) env))) (fun vs s₁ => (K w.params).In s₁.heap ∧ wpAny (model PySem.Challenge.rw_pf0018_01.row.prog w) A (call f vs) Q E s₁) E s) :
    wpAny (model PySem.Challenge.rw_pf0018_01.row.prog w) A (eval (.Call (.Name x p1) (e :: rest) [] pos) env) Q E s := by
  obtain ⟨a, b, c⟩ := nmOk.of hk
  refine Call_ (Calls.Name_function_global a b (Calls.loadGlobal_global (by rw [hg]; exact T.g.keeps F.keep) (mg_of X T.g hn) ?_) c) rfl
  exact callWith_K (first := []) X hf H he hp
theorem tl_callK0 (F : Fr h₀ L s.heap m) (X : (K w.params).In h₀) (T : Top p loose mean mg mb h₀) (hn : nsIn (K w.params) mainGlobals x = some (some f)) (hk : nmOk env .globalImplicit x = true) (hg : env.globals = mainGlobals) (hf : keepIn (K w.params) f = true)
    (H : wpAny (model PySem.Challenge.rw_pf0018_01.row.prog w) A (call f []) Q E s) :
    wpAny (model PySem.Challenge.rw_pf0018_01.row.prog w) A (eval (.Call (.Name x p1) [] [] pos) env) Q E s := by
  obtain ⟨a, b, c⟩ := nmOk.of hk
  refine Call_ (Calls.Name_function_global a b (Calls.loadGlobal_global (by rw [hg]; exact T.g.keeps F.keep) (mg_of X T.g hn) ?_) c) rfl
  exact callWith_K0 (first := []) (X.keeps F.keep) hf H
end
theorem ne_gtA {D a : Nat} {o : Obj} {l : Led} (h : AllLt D l) (hm : (a, o) ∈ l) : D ≠ a := Nat.ne_of_gt (ktn_ltOf h _ hm)
theorem ne_ltA {D a : Nat} {o : Obj} {l : Led} (h : AllLt D l) (hm : (a, o) ∈ l) : a ≠ D := Nat.ne_of_lt (ktn_ltOf h _ hm)
theorem hd_o2 {dp d k N : Nat} (h : dp + d < N) (e : Nat.ble (2 + k) d = true) : dp + 1 + 1 + k < N := Nat.lt_of_le_of_lt (by rw [Nat.add_assoc, Nat.add_assoc, ← Nat.add_assoc 1]; exact Nat.add_le_add_left (Nat.le_of_ble_eq_true e) dp) h
theorem hu_o2 {un d k N : Nat} (h : un + 8 * d < N) (e : Nat.ble (6 + 8 * k) (8 * d) = true) : un + 3 + 3 + 8 * k < N := Nat.lt_of_le_of_lt (by rw [Nat.add_assoc, Nat.add_assoc, ← Nat.add_assoc 3]; exact Nat.add_le_add_left (Nat.le_of_ble_eq_true e) un) h
theorem hd_i {dp d i k N : Nat} (h : dp + d < N) (e : Nat.ble (i + k) d = true) : dp + i + k < N := Nat.lt_of_le_of_lt (by rw [Nat.add_assoc]; exact Nat.add_le_add_left (Nat.le_of_ble_eq_true e) dp) h
theorem hu_i {un d i k N : Nat} (h : un + 8 * d < N) (e : Nat.ble (i + 8 * k) (8 * d) = true) : un + i + 8 * k < N := Nat.lt_of_le_of_lt (by rw [Nat.add_assoc]; exact Nat.add_le_add_left (Nat.le_of_ble_eq_true e) un) h
end
section
structure Ini (w : World) (h₀ : Heap) (L : Addr) (m : Str → Option Value) (dx x C : Addr) (rest : Led) (es : List DictEntry) (h : Heap) : Prop where
  F : Fr h₀ L h m
  N : ∃ n, News h₀ L h ((dx, dictOf es n) :: rest)
  hx : (x, instObj C dx) ∈ rest
  ne : ∀ p ∈ rest, p.1 ≠ dx
  X : (K w.params).In h₀
  ms : m "self" = some (.ref x)
  hs : findIn (K w.params) (.ref C) "__setattr__" = some (some (.builtin "object.__setattr__"))
  hp : plainOver (K w.params) C = true
  hh : hasDictIn (K w.params) C = true
noncomputable def putOk (name : Str) (es : List DictEntry) : Bool := (getL name es).isSome && Nat.ble es.length 999
theorem putL_len {name : Str} {hsh : Int} {key v : Value} : ∀ {es : List DictEntry}, (putL name hsh key v es).length ≤ es.length + 1
  | [] => Nat.le_refl _
  | e :: r => by
    unfold putL
    split
    · exact Nat.le_succ _
    · exact Nat.succ_le_succ putL_len
section
variable {w : World} {A : Around} {E : Value → Shared → Prop} {env : Env} {x C dx : Addr} {h₀ h : Heap} {m : Str → Option Value} {rest : Led} {es : List DictEntry} {name y : Str} {v : Value} {g : Array GenState} {d : Drawn} {k kk : Nat} {o : OsState} {p1 p2 p3 p4 : Pos} {r : List Stmt} {Q : Flow → Shared → Prop}
theorem Ini.start {L : Addr} (F : Fr h₀ L h m) (N : News h₀ L h ((x, instObj C dx) :: (dx, dictOf [] 0) :: rest)) (l1 : ∀ p ∈ rest, p.1 < dx) (l2 : dx < x) (X : (K w.params).In h₀) (ms : m "self" = some (.ref x))
    (hs : findIn (K w.params) (.ref C) "__setattr__" = some (some (.builtin "object.__setattr__"))) (hp : plainOver (K w.params) C = true) (hh : hasDictIn (K w.params) C = true) : Ini w h₀ L m dx x C ((x, instObj C dx) :: rest) [] h :=
  ⟨F, ⟨0, fun p hp => N p (by rcases List.mem_cons.mp hp with rfl | hp; exact .tail _ (.head _); rcases List.mem_cons.mp hp with rfl | hp; exact .head _; exact .tail _ (.tail _ hp))⟩, .head _,
    fun p hp => by rcases List.mem_cons.mp hp with rfl | hp; exact Nat.ne_of_gt l2; exact Nat.ne_of_lt (l1 _ hp), X, ms, hs, hp, hh⟩
theorem ini_set {L : Addr} (I : Ini w h₀ L m dx x C rest es h) (ht : takerIn (K w.params) C name = some none) (ok : putOk name es = true) {Q : Unit → Shared → Prop}
    (H : ∀ h' tk t, let e9 := putL name (PyData.keyHash w.params name) (.str name t) v es; Ini w h₀ L m dx x C rest e9 h' → Q () ⟨h', g, d, tk, o⟩) :
    wpAny (model PySem.Challenge.rw_pf0018_01.row.prog w) A (setAttr (.ref x) name v) Q E ⟨h, g, d, k, o⟩ := by
  obtain ⟨F, ⟨n, N⟩, hx, ne, X, ms, hs, hp, hh⟩ := I
  obtain ⟨o1, o2⟩ := Bool.and_eq_true_iff.mp ok
  refine tk_set F X N (InstAt.of_news N (.tail _ hx) (.head _)) rfl hs hp ht hh o1 rfl (.head ne) (Nat.le_trans putL_len (Nat.succ_le_succ (Nat.le_of_ble_eq_true o2))) ?_
  intro h' tk F' N'
  exact H h' tk (k + 1) ⟨F', ⟨_, N'⟩, hx, ne, X, ms, hs, hp, hh⟩
theorem ini_tail (I : Ini w h₀ env.locals m dx x C rest es h) (hk : nmOk env .local "self" = true) (ht : takerIn (K w.params) C name = some none) (ok : putOk name es = true) (Q : Unit → Shared → Prop)
    (H : ∀ h' tk t, let e9 := putL name (PyData.keyHash w.params name) (.str name t) v es; Ini w h₀ env.locals m dx x C rest e9 h' → Q () ⟨h', g, d, tk, o⟩) :
    wpAny (model PySem.Challenge.rw_pf0018_01.row.prog w) A (eval (.Name "self" p1) env) (fun ov s => wpAny (model PySem.Challenge.rw_pf0018_01.row.prog w) A (setAttr ov name v) Q E s) E ⟨h, g, d, k, o⟩ :=
  tl_name (s := ⟨h, g, d, k, o⟩) I.F I.ms hk (ini_set I ht ok H)
theorem ini_name (I : Ini w h₀ env.locals m dx x C rest es h) (hv : m y = some v) (ht : takerIn (K w.params) C name = some none) (hk : (nmOk env .local "self" && nmOk env .local y && putOk name es) = true)
    (sw : swapsWith (.Name y p4) (some (.Attribute (.Name "self" p1) name p2)) p3.line env = pure false)
    (H : ∀ h' tk t, let e9 := putL name (PyData.keyHash w.params name) (.str name t) v es; Ini w h₀ env.locals m dx x C rest e9 h' → wpAny (model PySem.Challenge.rw_pf0018_01.row.prog w) A (execs r env) Q E ⟨h', g, d, tk, o⟩) :
    wpAny (model PySem.Challenge.rw_pf0018_01.row.prog w) A (execs (.Assign [.Attribute (.Name "self" p1) name p2] (.Name y p4) p3 :: r) env) Q E ⟨h, g, d, k, o⟩ := by
  obtain ⟨hk, ok⟩ := Bool.and_eq_true_iff.mp hk
  obtain ⟨hk, hy⟩ := Bool.and_eq_true_iff.mp hk
  exact tl_cons (plainObj_wpAny_Assign_Attribute (tl_name (s := ⟨h, g, d, k, o⟩) I.F hv hy (ini_tail I hk ht ok _ H)) sw)
theorem ini_int {i : Int} (I : Ini w h₀ env.locals m dx x C rest es h) (ht : takerIn (K w.params) C name = some none) (hk : (nmOk env .local "self" && putOk name es) = true)
    (sw : swapsWith (.Constant (.int i) kk p4) (some (.Attribute (.Name "self" p1) name p2)) p3.line env = pure false)
    (H : ∀ u h' tk t, let e9 := putL name (PyData.keyHash w.params name) (.str name t) (.int i u) es; Ini w h₀ env.locals m dx x C rest e9 h' → wpAny (model PySem.Challenge.rw_pf0018_01.row.prog w) A (execs r env) Q E ⟨h', g, d, tk, o⟩) :
    wpAny (model PySem.Challenge.rw_pf0018_01.row.prog w) A (execs (.Assign [.Attribute (.Name "self" p1) name p2] (.Constant (.int i) kk p4) p3 :: r) env) Q E ⟨h, g, d, k, o⟩ := by
  obtain ⟨hk, ok⟩ := Bool.and_eq_true_iff.mp hk
  exact tl_cons (plainObj_wpAny_Assign_Attribute (wpAny_Constant_int (ini_tail I hk ht ok _ (H _))) sw)
theorem ini_str {i : Str} (I : Ini w h₀ env.locals m dx x C rest es h) (ht : takerIn (K w.params) C name = some none) (hk : (nmOk env .local "self" && putOk name es) = true)
    (sw : swapsWith (.Constant (.str i) kk p4) (some (.Attribute (.Name "self" p1) name p2)) p3.line env = pure false)
    (H : ∀ u h' tk t, let e9 := putL name (PyData.keyHash w.params name) (.str name t) (.str i u) es; Ini w h₀ env.locals m dx x C rest e9 h' → wpAny (model PySem.Challenge.rw_pf0018_01.row.prog w) A (execs r env) Q E ⟨h', g, d, tk, o⟩) :
    wpAny (model PySem.Challenge.rw_pf0018_01.row.prog w) A (execs (.Assign [.Attribute (.Name "self" p1) name p2] (.Constant (.str i) kk p4) p3 :: r) env) Q E ⟨h, g, d, k, o⟩ := by
  obtain ⟨hk, ok⟩ := Bool.and_eq_true_iff.mp hk
  exact tl_cons (plainObj_wpAny_Assign_Attribute (Calls.Constant_str (ini_tail I hk ht ok _ (H _))) sw)
theorem ini_bool {i : Bool} (I : Ini w h₀ env.locals m dx x C rest es h) (ht : takerIn (K w.params) C name = some none) (hk : (nmOk env .local "self" && putOk name es) = true)
    (sw : swapsWith (.Constant (.bool i) kk p4) (some (.Attribute (.Name "self" p1) name p2)) p3.line env = pure false)
    (H : ∀ h' tk t, let e9 := putL name (PyData.keyHash w.params name) (.str name t) (.bool i) es; Ini w h₀ env.locals m dx x C rest e9 h' → wpAny (model PySem.Challenge.rw_pf0018_01.row.prog w) A (execs r env) Q E ⟨h', g, d, tk, o⟩) :
    wpAny (model PySem.Challenge.rw_pf0018_01.row.prog w) A (execs (.Assign [.Attribute (.Name "self" p1) name p2] (.Constant (.bool i) kk p4) p3 :: r) env) Q E ⟨h, g, d, k, o⟩ := by
  obtain ⟨hk, ok⟩ := Bool.and_eq_true_iff.mp hk
  exact tl_cons (plainObj_wpAny_Assign_Attribute (wpAny_Constant_bool (ini_tail I hk ht ok _ H)) sw)
theorem ini_list (I : Ini w h₀ env.locals m dx x C rest es h) (ht : takerIn (K w.params) C name = some none) (hk : (nmOk env .local "self" && putOk name es) = true)
    (sw : swapsWith (.List [] p4) (some (.Attribute (.Name "self" p1) name p2)) p3.line env = pure false)
    (H : ∀ D h' tk t, let e9 := putL name (PyData.keyHash w.params name) (.str name t) (.ref D) es; Ini w h₀ env.locals m dx x C rest e9 h' → wpAny (model PySem.Challenge.rw_pf0018_01.row.prog w) A (execs r env) Q E ⟨h', g, d, tk, o⟩) :
    wpAny (model PySem.Challenge.rw_pf0018_01.row.prog w) A (execs (.Assign [.Attribute (.Name "self" p1) name p2] (.List [] p4) p3 :: r) env) Q E ⟨h, g, d, k, o⟩ := by
  obtain ⟨hk, ok⟩ := Bool.and_eq_true_iff.mp hk
  refine tl_cons (plainObj_wpAny_Assign_Attribute (wpAny_List (args_nil ⟨Nat.zero_le _, ?_⟩)) sw)
  obtain ⟨n, N⟩ := I.N
  exact ini_tail ⟨I.F.push _, ⟨n, fun p hp => News.push I.F N (listOf #[] 0) rfl p (.tail _ hp)⟩, I.hx, I.ne, I.X, I.ms, I.hs, I.hp, I.hh⟩ hk ht ok _ (H _)
theorem ini_dict (I : Ini w h₀ env.locals m dx x C rest es h) (ht : takerIn (K w.params) C name = some none) (hk : (nmOk env .local "self" && putOk name es) = true)
    (sw : swapsWith (.Dict [] [] p4) (some (.Attribute (.Name "self" p1) name p2)) p3.line env = pure false)
    (H : ∀ D h' tk t, let e9 := putL name (PyData.keyHash w.params name) (.str name t) (.ref D) es; let r9 := (D, dictOf [] 0) :: rest; (∀ p ∈ rest, p.1 < D) → Ini w h₀ env.locals m dx x C r9 e9 h' → wpAny (model PySem.Challenge.rw_pf0018_01.row.prog w) A (execs r env) Q E ⟨h', g, d, tk, o⟩) :
    wpAny (model PySem.Challenge.rw_pf0018_01.row.prog w) A (execs (.Assign [.Attribute (.Name "self" p1) name p2] (.Dict [] [] p4) p3 :: r) env) Q E ⟨h, g, d, k, o⟩ := by
  obtain ⟨hk, ok⟩ := Bool.and_eq_true_iff.mp hk
  refine tl_cons (plainObj_wpAny_Assign_Attribute (wpAny_Dict_empty ?_) sw)
  obtain ⟨n, N⟩ := I.N
  have l : ∀ p ∈ (dx, dictOf es n) :: rest, p.1 < h.objs.size := fun p hp => Heap.lt_size (N p hp).1
  refine ini_tail (rest := (h.objs.size, dictOf [] 0) :: rest) ⟨I.F.push _, ⟨n, fun p hp => News.push I.F N _ rfl p ?_⟩, .tail _ I.hx, ?_, I.X, I.ms, I.hs, I.hp, I.hh⟩ hk ht ok _ (fun h' tk t J => H _ h' tk t (fun p hp => l p (.tail _ hp)) J)
  · rcases List.mem_cons.mp hp with rfl | hp
    · exact .tail _ (.head _)
    rcases List.mem_cons.mp hp with rfl | hp
    · exact .head _
    exact .tail _ (.tail _ hp)
  · intro p hp
    rcases List.mem_cons.mp hp with rfl | hp
    · exact Nat.ne_of_gt (l _ (.head _))
    exact I.ne _ hp
end
end
section
set_option genInjectivity false
set_option genSizeOf false
set_option genSizeOfSpec false
noncomputable abbrev PG : Program := PySem.Challenge.rw_pf0018_01.row.prog
noncomputable abbrev MG (w : World) : Model := model PySem.Challenge.rw_pf0018_01.row.prog w
theorem four {i : Int} (h0 : 0 ≤ i) (h3 : i ≤ 3) : i = 0 ∨ i = 1 ∨ i = 2 ∨ i = 3 := by omega
theorem fourN {i : Nat} (h : i < 4) : i = 0 ∨ i = 1 ∨ i = 2 ∨ i = 3 := by omega
inductive V | num (x : Int) | txt (s : Str)
inductive Nm | I | J | S
inductive Ar | A | W
noncomputable def Nm.word : Nm → Str | .I => "I" | .J => "J" | .S => "S$"
noncomputable def Ar.word : Ar → Str | .A => "A" | .W => "W$"
structure Sg where
  nm : Nm → V
  ar : Ar → Nat → V
noncomputable abbrev decO (x : Int) (k1 k2 : Tok) : Obj := tupOf [.int x k1, .int 0 k2] 0
inductive GotD (st : Led) (x : Int) : Value → Led → Prop | mk (t : Nat) (k1 k2 : Tok) (h : AllLt t st) : GotD st x (.ref t) ((t, decO x k1 k2) :: st)
inductive GotE (st : Led) (x : Int) : Value → Led → Prop | mk (t : Nat) (k1 k2 : Tok) : GotE st x (.ref t) ((t, decO x k1 k2) :: st)
inductive GotL (st : Led) (a : Array Value) : Value → Led → Prop | mk (l c : Nat) (h : AllLt l st) : GotL st a (.ref l) ((l, listOf a c) :: st)
inductive GotM (st : Led) (a : Array Value) : Value → Led → Prop | mk (l c : Nat) : GotM st a (.ref l) ((l, listOf a c) :: st)
theorem GotL.m {st : Led} {a : Array Value} {v : Value} {n : Led} (h : GotL st a v n) : GotM st a v n := by cases h; exact .mk _ _
inductive DecS (st : Led) (v : Value) (x : Int) : Prop | mk (t : Nat) (k1 k2 : Tok) (e : v = .ref t) (m : (t, decO x k1 k2) ∈ st)
noncomputable def VR (st : Led) (v : Value) : V → Prop
  | .num x => DecS st v x
  | .txt s => ∃ k, v = .str s k
noncomputable def PV (st : Led) (v : Value) : V → Prop
  | .num x => (∃ k, v = .int x k) ∨ VR st v (.num x)
  | .txt s => ∃ k, v = .str s k
theorem VR.mono {st st' : Led} {v : Value} (h : ∀ p ∈ st, p.2.cls = .type "tuple" → p ∈ st') : ∀ {x : V}, VR st v x → VR st' v x
  | .num _, ⟨t, k1, k2, e, m⟩ => ⟨t, k1, k2, e, h _ m rfl⟩
  | .txt _, x => x
theorem VR.pv {st : Led} {v : Value} : ∀ {x : V}, VR st v x → PV st v x
  | .num _, x => .inr x
  | .txt _, x => x
theorem PV.mono {st st' : Led} {v : Value} (h : ∀ p ∈ st, p.2.cls = .type "tuple" → p ∈ st') : ∀ {x : V}, PV st v x → PV st' v x
  | .num _, .inl x => .inl x
  | .num _, .inr x => .inr (VR.mono h x)
  | .txt _, x => x
noncomputable def okV : Bool → V → Prop
  | false, .num x => 0 ≤ x ∧ x ≤ 3
  | true, .txt s => s.length ≤ 4
  | _, _ => False
noncomputable def Nm.isT : Nm → Bool | .S => true | _ => false
noncomputable def Ar.isT : Ar → Bool | .W => true | _ => false
noncomputable def Sg.Ok (σ : Sg) : Prop := (∀ p, okV p.isT (σ.nm p)) ∧ ∀ b i, i < 4 → okV b.isT (σ.ar b i)
structure Ad where
  (run dR wld dW aN aArr aK aF aFl ans ask fnr : Nat)
  (g dg it hi : Ar → Nat)
  (esR esW esArr esAns : List DictEntry)
  (esG : Ar → List DictEntry)
  (nR nW nArr nAns nHA nHW : Nat)
  (nG : Ar → Nat)
  (kH : Ar → Tok)
noncomputable def Ad.muts (A : Ad) : List Nat := [A.aN, A.it .A, A.it .W, A.ask, A.fnr]
noncomputable def Ad.objs (A : Ad) : Led := [(A.run, instObj 732 A.dR), (A.dR, dictOf A.esR A.nR), (A.wld, instObj 181 A.dW), (A.dW, dictOf A.esW A.nW), (A.aArr, dictOf A.esArr A.nArr), (A.aK, dictOf [] 0), (A.aF, dictOf [] 0), (A.aFl, dictOf [] 0),
  (A.ans, dictOf A.esAns A.nAns), (A.g .A, instObj 263 (A.dg .A)), (A.dg .A, dictOf (A.esG .A) (A.nG .A)), (A.hi .A, listOf #[.int 3 (A.kH .A)] A.nHA), (A.g .W, instObj 263 (A.dg .W)), (A.dg .W, dictOf (A.esG .W) (A.nG .W)), (A.hi .W, listOf #[.int 3 (A.kH .W)] A.nHW)]
structure Ad.Ok (w : World) (A : Ad) : Prop where
  nd : A.muts.Nodup
  off : ∀ p ∈ A.objs, p.1 ∉ A.muts
  rWorld : getL "world" A.esR = some (some (.ref A.wld))
  rAsked : getL "asked" A.esR = some (some (.ref A.ask))
  rAnswers : getL "answers" A.esR = some (some (.ref A.ans))
  rBits : ∃ k, getL "bits" A.esR = some (some (.int 16 k))
  rDigits : ∃ k, getL "digits" A.esR = some (some (.int 9 k))
  rNo : ∀ x ∈ (["worth", "whole", "value_of_name", "item_of", "call", "fn", "answered", "store", "put"] : List String), getL (Str.ofString x) A.esR = some none
  wNames : getL "names" A.esW = some (some (.ref A.aN))
  wArrays : getL "arrays" A.esW = some (some (.ref A.aArr))
  wKinds : getL "kinds" A.esW = some (some (.ref A.aK))
  wFns : getL "fns" A.esW = some (some (.ref A.aF))
  wFields : getL "fields" A.esW = some (some (.ref A.aFl))
  wBits : ∃ k, getL "bits" A.esW = some (some (.int 16 k))
  wDigits : ∃ k, getL "digits" A.esW = some (some (.int 9 k))
  arr : ∀ b : Ar, getL b.word A.esArr = some (some (.ref (A.g b)))
  arrK : KeysLit w.params A.esArr
  gKind : ∀ b : Ar, ∃ k, getL "kind" (A.esG b) = some (some (.str (if b.isT then "text" else "decimal") k))
  gHighs : ∀ b : Ar, getL "highs" (A.esG b) = some (some (.ref (A.hi b)))
  gBase : ∀ b : Ar, ∃ k, getL "base" (A.esG b) = some (some (.int 0 k))
  gItems : ∀ b : Ar, getL "items" (A.esG b) = some (some (.ref (A.it b)))
  ansF : getL "FNR" A.esAns = some (some (.ref A.fnr))
  ansK : KeysLit w.params A.esAns
inductive CellIs (c : Nat) (v : Value) (st : Led) : Prop | mk (o : Obj) (h : (c, o) ∈ st) (d : o.data = .cell (some v))
theorem CellIs.up {c : Nat} {v : Value} {st n : Led} (x : CellIs c v st) (h : ∀ {o}, (c, o) ∈ st → (c, o) ∈ n) : CellIs c v n := by obtain ⟨o, a, b⟩ := x; exact ⟨o, h a, b⟩
inductive CellAny (c : Nat) (st : Led) : Prop | mk (o : Obj) (v : Option Value) (h : (c, o) ∈ st) (d : o.data = .cell v)
theorem CellAny.up {c : Nat} {st n : Led} (x : CellAny c st) (h : ∀ {o}, (c, o) ∈ st → (c, o) ∈ n) : CellAny c n := by obtain ⟨o, v, a, b⟩ := x; exact ⟨o, v, h a, b⟩
noncomputable def Wd (A : Ad) (st : Led) : Prop := ∀ p ∈ A.objs, p ∈ st
noncomputable def Keep (A : Ad) (st n : Led) : Prop := (∀ p ∈ st, p.1 ∉ A.muts → p ∈ n) ∧ ∀ p ∈ st, p.2.cls = .type "tuple" → p ∈ n
inductive DictD (w : World) (kvs : List (Str × Value)) (o : Obj) : Prop | mk (es : Array DictEntry) (ep : Nat) (e : o.data = .dict es ep) (k : KeysOf (strKind PG w) es) (p : Pairs (strKind PG w) es.toList kvs) (n : (kvs.map (·.1)).Nodup)
noncomputable def DictO (w : World) (kvs : List (Str × Value)) (o : Obj) : Prop := o.ExactDict ∧ DictD w kvs o
inductive NmS (w : World) (A : Ad) (f : Nm → V) (st : Led) : Prop | mk (o : Obj) (vI vJ vS : Value) (a1 : (A.aN, o) ∈ st) (a2 : DictO w [("I", vI), ("J", vJ), ("S$", vS)] o) (a3 : VR st vI (f .I)) (a4 : VR st vJ (f .J)) (a5 : VR st vS (f .S))
inductive ItS (a : Nat) (g : Nat → V) (st : Led) : Prop | mk (v0 v1 v2 v3 : Value) (n : Nat) (a0 : (a, listOf #[v0, v1, v2, v3] n) ∈ st) (a1 : VR st v0 (g 0)) (a2 : VR st v1 (g 1)) (a3 : VR st v2 (g 2)) (a4 : VR st v3 (g 3))
inductive IntS (a : Nat) (l : List Int) (st : Led) : Prop | mk (vs : List Value) (n : Nat) (h : (a, listOf vs.toArray n) ∈ st) (i : IntsAre vs l)
inductive ArrS (a q : Nat) (st : Led) : Prop | mk (vs : Array Value) (n : Nat) (h : (a, listOf vs n) ∈ st) (z : vs.size ≤ q)
inductive NmD (w : World) (f : Nm → V) (st : Led) (o : Obj) : Prop | mk (vI vJ vS : Value) (a2 : DictO w [("I", vI), ("J", vJ), ("S$", vS)] o) (a3 : VR st vI (f .I)) (a4 : VR st vJ (f .J)) (a5 : VR st vS (f .S))
inductive ItD (g : Nat → V) (st : Led) (o : Obj) : Prop | mk (v0 v1 v2 v3 : Value) (n : Nat) (e : o = listOf #[v0, v1, v2, v3] n) (a1 : VR st v0 (g 0)) (a2 : VR st v1 (g 1)) (a3 : VR st v2 (g 2)) (a4 : VR st v3 (g 3))
structure Mu (w : World) (A : Ad) (σ : Sg) (left : List Int) (q : Nat) (st : Led) : Prop where
  names : NmS w A σ.nm st
  items : ∀ b : Ar, ItS (A.it b) (σ.ar b) st
  fnr : IntS A.fnr left st
  asked : ArrS A.ask q st
theorem Keep.refl {A : Ad} {st : Led} : Keep A st st := ⟨fun _ h _ => h, fun _ h _ => h⟩
theorem Keep.trans {A : Ad} {a b c : Led} (x : Keep A a b) (y : Keep A b c) : Keep A a c := ⟨fun p h m => y.1 p (x.1 p h m) m, fun p h m => y.2 p (x.2 p h m) m⟩
theorem Keep.cons {A : Ad} {st : Led} {p : Addr × Obj} : Keep A st (p :: st) := ⟨fun _ h _ => .tail _ h, fun _ h _ => .tail _ h⟩
theorem Wd.cons {A : Ad} {st : Led} {p : Addr × Obj} (W : Wd A st) : Wd A (p :: st) := fun q h => .tail _ (W q h)
theorem Wd.keep {w : World} {A : Ad} {st n : Led} (O : A.Ok w) (W : Wd A st) (k : Keep A st n) : Wd A n := fun q h => k.1 q (W q h) (O.off q h)
section
variable {w : World} {A : Ad} {f : Nm → V} {g : Nat → V} {st : Led} {a : Nat} {G : Prop}
theorem nm_mk {o : Obj} {vI vJ vS : Value} (a1 : (A.aN, o) ∈ st) (a2 : DictO w [("I", vI), ("J", vJ), ("S$", vS)] o) (a3 : VR st vI (f .I)) (a4 : VR st vJ (f .J)) (a5 : VR st vS (f .S)) : NmS w A f st := ⟨o, vI, vJ, vS, a1, a2, a3, a4, a5⟩
theorem nm_el (h : NmS w A f st)
    (k : ∀ o vI vJ vS, (A.aN, o) ∈ st → DictO w [("I", vI), ("J", vJ), ("S$", vS)] o → VR st vI (f .I) → VR st vJ (f .J) → VR st vS (f .S) → G) : G := by
  obtain ⟨o, vI, vJ, vS, a1, a2, a3, a4, a5⟩ := h; exact k _ _ _ _ a1 a2 a3 a4 a5
theorem it_mk {v0 v1 v2 v3 : Value} {n : Nat} (a0 : (a, listOf #[v0, v1, v2, v3] n) ∈ st) (a1 : VR st v0 (g 0)) (a2 : VR st v1 (g 1)) (a3 : VR st v2 (g 2)) (a4 : VR st v3 (g 3)) : ItS a g st := ⟨v0, v1, v2, v3, n, a0, a1, a2, a3, a4⟩
theorem it_el (h : ItS a g st)
    (k : ∀ v0 v1 v2 v3 n, (a, listOf #[v0, v1, v2, v3] n) ∈ st → VR st v0 (g 0) → VR st v1 (g 1) → VR st v2 (g 2) → VR st v3 (g 3) → G) : G := by
  obtain ⟨v0, v1, v2, v3, n, a0, a1, a2, a3, a4⟩ := h; exact k _ _ _ _ _ a0 a1 a2 a3 a4
end
theorem ask_mut (A : Ad) : A.ask ∈ A.muts := by simp [Ad.muts]
theorem aN_mut (A : Ad) : A.aN ∈ A.muts := by simp [Ad.muts]
theorem fnr_mut (A : Ad) : A.fnr ∈ A.muts := by simp [Ad.muts]
theorem it_mut (A : Ad) (b : Ar) : A.it b ∈ A.muts := match b with | .A => List.mem_of_getElem? (i := 1) rfl | .W => List.mem_of_getElem? (i := 2) rfl
theorem Mu.map {w : World} {A : Ad} {σ : Sg} {left : List Int} {q : Nat} {st n : Led} (M : Mu w A σ left q st) (h : ∀ p ∈ st, p.1 ∈ A.muts → p ∈ n) (hv : ∀ v x, VR st v x → VR n v x) : Mu w A σ left q n := by
  obtain ⟨a, b, ⟨vs, n1, c1, c2⟩, ⟨us, n2, d1, d2⟩⟩ := M
  refine ⟨nm_el a ?_, fun x => it_el (b x) ?_, ⟨vs, n1, h _ c1 (fnr_mut A), c2⟩, ⟨us, n2, h _ d1 (ask_mut A), d2⟩⟩
  · intro o vI vJ vS a1 a2 a3 a4 a5
    exact nm_mk (h _ a1 (aN_mut A)) a2 (hv _ _ a3) (hv _ _ a4) (hv _ _ a5)
  · intro v0 v1 v2 v3 k e0 e1 e2 e3 e4
    exact it_mk (h _ e0 (it_mut A x)) (hv _ _ e1) (hv _ _ e2) (hv _ _ e3) (hv _ _ e4)
theorem Mu.mono {w : World} {A : Ad} {σ : Sg} {left : List Int} {q : Nat} {st n : Led} (M : Mu w A σ left q st) (h : ∀ p ∈ st, p ∈ n) : Mu w A σ left q n := M.map (fun p hp _ => h p hp) fun _ _ x => x.mono fun p hp _ => h p hp
theorem Mu.cons {w : World} {A : Ad} {σ : Sg} {left : List Int} {q : Nat} {st : Led} {p : Addr × Obj} (M : Mu w A σ left q st) : Mu w A σ left q (p :: st) := M.mono fun _ h => .tail _ h
noncomputable def off (st : Led) (a : Nat) : Led := st.filter fun p => decide (p.1 ≠ a)
theorem off_mem {st : Led} {a : Nat} {p : Addr × Obj} : p ∈ off st a ↔ p ∈ st ∧ p.1 ≠ a := by unfold off; rw [List.mem_filter]; simp
theorem off_own {st : Led} {a : Nat} : OwnOff (off st a) [a] := fun p hp b hb => by rw [List.mem_singleton.mp hb]; exact (off_mem.mp hp).2
theorem news_off {h₀ h : Heap} {L : Addr} {st : Led} {a : Nat} {o : Obj} (N : News h₀ L h st) (hm : (a, o) ∈ st) : News h₀ L h ((a, o) :: off st a) := fun p hp => by
  rcases List.mem_cons.mp hp with rfl | hp
  · exact N _ hm
  · exact N p (off_mem.mp hp).1
theorem tup_ne {h₀ h : Heap} {L : Addr} {st : Led} {a : Nat} {o : Obj} (N : News h₀ L h st) (hm : (a, o) ∈ st) (ho : o.cls ≠ .type "tuple") : ∀ p ∈ st, p.2.cls = .type "tuple" → p.1 ≠ a := fun p hp hc e => by
  have h1 := (N p hp).1
  have h2 := (N _ hm).1
  rw [e, h2] at h1
  have z : o = p.2 := Option.some.inj h1
  exact ho (by rw [z]; exact hc)
theorem keep_off {h₀ h : Heap} {L : Addr} {A : Ad} {st : Led} {a : Nat} {o o' : Obj} (N : News h₀ L h st) (hm : (a, o) ∈ st) (ho : o.cls ≠ .type "tuple") (ha : a ∈ A.muts) : Keep A st ((a, o') :: off st a) :=
  ⟨fun p hp hn => .tail _ (off_mem.mpr ⟨hp, fun e => hn (e ▸ ha)⟩), fun p hp hc => .tail _ (off_mem.mpr ⟨hp, tup_ne N hm ho p hp hc⟩)⟩
section
variable {w : World} {h₀ h : Heap} {L : Addr} {A : Ad} {σ : Sg} {left : List Int} {q : Nat} {st : Led}
theorem mut_ne (O : A.Ok w) : A.aN ≠ A.it .A ∧ A.aN ≠ A.it .W ∧ A.aN ≠ A.ask ∧ A.aN ≠ A.fnr ∧ A.it .A ≠ A.it .W ∧ A.it .A ≠ A.ask ∧ A.it .A ≠ A.fnr ∧ A.it .W ≠ A.ask ∧ A.it .W ≠ A.fnr ∧ A.ask ≠ A.fnr := by
  have := O.nd
  simp only [Ad.muts, List.nodup_cons, List.mem_cons, List.not_mem_nil, not_or, List.nodup_nil, not_false_eq_true, and_true] at this
  obtain ⟨⟨a, b, c, d⟩, ⟨e, f, g⟩, ⟨h, i⟩, j⟩ := this
  exact ⟨a, b, c, d, e, f, g, h, i, j⟩
theorem Mu.put {a : Nat} {o o' : Obj} (O : A.Ok w) (N : News h₀ L h st) (hm : (a, o) ∈ st) (ho : o.cls ≠ .type "tuple") {σ' : Sg} {left' : List Int} {q' : Nat} (M : Mu w A σ left q st)
    (hN : a = A.aN → NmD w σ'.nm st o') (hN' : a ≠ A.aN → ∀ p, σ'.nm p = σ.nm p)
    (hI : ∀ b, a = A.it b → ItD (σ'.ar b) st o') (hI' : ∀ b, a ≠ A.it b → ∀ i, σ'.ar b i = σ.ar b i)
    (hF : a = A.fnr → ∃ vs n, o' = listOf vs.toArray n ∧ IntsAre vs left') (hF' : a ≠ A.fnr → left' = left)
    (hA : a = A.ask → ∃ vs n, o' = listOf vs n ∧ vs.size ≤ q') (hA' : a ≠ A.ask → q ≤ q') : Mu w A σ' left' q' ((a, o') :: off st a) := by
  have up : ∀ p ∈ st, p.2.cls = .type "tuple" → p ∈ (a, o') :: off st a := fun p hp hc => .tail _ (off_mem.mpr ⟨hp, tup_ne N hm ho p hp hc⟩)
  have st' : ∀ p ∈ st, p.1 ≠ a → p ∈ (a, o') :: off st a := fun p hp hn => .tail _ (off_mem.mpr ⟨hp, hn⟩)
  obtain ⟨a0, b, ⟨vs, n1, c1, c2⟩, ⟨us, n2, d1, d2⟩⟩ := M
  refine ⟨?_, fun x => ?_, ?_, ?_⟩
  · by_cases e : a = A.aN
    · obtain ⟨vI, vJ, vS, e1, e2, e3, e4⟩ := hN e
      exact nm_mk (e ▸ List.Mem.head _ : (A.aN, o') ∈ (a, o') :: off st a) e1 (e2.mono up) (e3.mono up) (e4.mono up)
    · refine nm_el a0 ?_
      intro oN vI vJ vS a1 a2 a3 a4 a5
      exact nm_mk (st' _ a1 (Ne.symm e)) a2 (hN' e .I ▸ a3.mono up) (hN' e .J ▸ a4.mono up) (hN' e .S ▸ a5.mono up)
  · by_cases e : a = A.it x
    · obtain ⟨v0, v1, v2, v3, n, rfl, e1, e2, e3, e4⟩ := hI x e
      exact it_mk (e ▸ List.Mem.head _ : (A.it x, listOf #[v0, v1, v2, v3] n) ∈ (a, listOf #[v0, v1, v2, v3] n) :: off st a) (e1.mono up) (e2.mono up) (e3.mono up) (e4.mono up)
    · refine it_el (b x) ?_
      intro v0 v1 v2 v3 n e0 e1 e2 e3 e4
      exact it_mk (st' _ e0 (Ne.symm e)) (hI' x e 0 ▸ e1.mono up) (hI' x e 1 ▸ e2.mono up) (hI' x e 2 ▸ e3.mono up) (hI' x e 3 ▸ e4.mono up)
  · by_cases e : a = A.fnr
    · obtain ⟨vs, n, rfl, e1⟩ := hF e
      exact ⟨vs, n, e ▸ .head _, e1⟩
    · rw [hF' e]
      exact ⟨vs, n1, st' _ c1 (Ne.symm e), c2⟩
  · by_cases e : a = A.ask
    · obtain ⟨vs, n, rfl, e1⟩ := hA e
      exact ⟨vs, n, e ▸ .head _, e1⟩
    · exact ⟨us, n2, st' _ d1 (Ne.symm e), Nat.le_trans d2 (hA' e)⟩
theorem Mu.put_ask {vs vs' : Array Value} {n n' q' : Nat} (O : A.Ok w) (N : News h₀ L h st) (hm : (A.ask, listOf vs n) ∈ st) (M : Mu w A σ left q st) (hs : vs'.size ≤ q') (hq : q ≤ q') : Mu w A σ left q' ((A.ask, listOf vs' n') :: off st A.ask) := by
  obtain ⟨n1, n2, n3, n4, n5, n6, n7, n8, n9, n10⟩ := mut_ne O
  exact M.put O N hm (by intro h; injection h with h; revert h; decide) (fun e => absurd e.symm n3) (fun _ _ => rfl) (fun b e => absurd e.symm (by cases b <;> assumption)) (fun _ _ _ => rfl) (fun e => absurd e n10) (fun _ => rfl) (fun _ => ⟨_, _, rfl, hs⟩) (fun _ => hq)
theorem Mu.put_fnr {vs vs' : List Value} {n n' : Nat} {left' : List Int} (O : A.Ok w) (N : News h₀ L h st) (hm : (A.fnr, listOf vs.toArray n) ∈ st) (M : Mu w A σ left q st) (hs : IntsAre vs' left') : Mu w A σ left' q ((A.fnr, listOf vs'.toArray n') :: off st A.fnr) := by
  obtain ⟨n1, n2, n3, n4, n5, n6, n7, n8, n9, n10⟩ := mut_ne O
  exact M.put O N hm (by intro h; injection h with h; revert h; decide) (fun e => absurd e.symm n4) (fun _ _ => rfl) (fun b e => absurd e.symm (by cases b <;> assumption)) (fun _ _ _ => rfl) (fun _ => ⟨_, _, rfl, hs⟩) (fun e => absurd rfl e) (fun e => absurd e.symm n10) (fun _ => Nat.le_refl _)
end
section
variable {A : Ad} {st : Led}
theorem Wd.run (W : Wd A st) : (A.run, instObj 732 A.dR) ∈ st := W _ (List.mem_of_getElem? (i := 0) rfl)
theorem Wd.dR (W : Wd A st) : (A.dR, dictOf A.esR A.nR) ∈ st := W _ (List.mem_of_getElem? (i := 1) rfl)
theorem Wd.wld (W : Wd A st) : (A.wld, instObj 181 A.dW) ∈ st := W _ (List.mem_of_getElem? (i := 2) rfl)
theorem Wd.dW (W : Wd A st) : (A.dW, dictOf A.esW A.nW) ∈ st := W _ (List.mem_of_getElem? (i := 3) rfl)
theorem Wd.aArr (W : Wd A st) : (A.aArr, dictOf A.esArr A.nArr) ∈ st := W _ (List.mem_of_getElem? (i := 4) rfl)
theorem Wd.aK (W : Wd A st) : (A.aK, dictOf [] 0) ∈ st := W _ (List.mem_of_getElem? (i := 5) rfl)
theorem Wd.aF (W : Wd A st) : (A.aF, dictOf [] 0) ∈ st := W _ (List.mem_of_getElem? (i := 6) rfl)
theorem Wd.aFl (W : Wd A st) : (A.aFl, dictOf [] 0) ∈ st := W _ (List.mem_of_getElem? (i := 7) rfl)
theorem Wd.ans (W : Wd A st) : (A.ans, dictOf A.esAns A.nAns) ∈ st := W _ (List.mem_of_getElem? (i := 8) rfl)
theorem Wd.g (W : Wd A st) (b : Ar) : (A.g b, instObj 263 (A.dg b)) ∈ st := match b with | .A => W _ (List.mem_of_getElem? (i := 9) rfl) | .W => W _ (List.mem_of_getElem? (i := 12) rfl)
theorem Wd.dg (W : Wd A st) (b : Ar) : (A.dg b, dictOf (A.esG b) (A.nG b)) ∈ st := match b with | .A => W _ (List.mem_of_getElem? (i := 10) rfl) | .W => W _ (List.mem_of_getElem? (i := 13) rfl)
theorem Wd.hi (W : Wd A st) (b : Ar) : ∃ n, (A.hi b, listOf #[.int 3 (A.kH b)] n) ∈ st := match b with
  | .A => ⟨A.nHA, W _ (List.mem_of_getElem? (i := 11) rfl)⟩
  | .W => ⟨A.nHW, W _ (List.mem_of_getElem? (i := 14) rfl)⟩
end
theorem Wd.offm {w : World} {A : Ad} {st : Led} {a : Nat} (O : A.Ok w) (W : Wd A st) (ha : a ∈ A.muts) : Wd A (off st a) := fun p hp => off_mem.mpr ⟨W p hp, fun e => O.off p hp (e ▸ ha)⟩
theorem names_at {σ : Sg} {st : Led} {vI vJ vS : Value} (r1 : VR st vI (σ.nm .I)) (r2 : VR st vJ (σ.nm .J)) (r3 : VR st vS (σ.nm .S)) (p : Nm) : ∃ v, valueAt [(("I" : Str), vI), ("J", vJ), ("S$", vS)] p.word = some v ∧ VR st v (σ.nm p) := by
  cases p
  · exact ⟨vI, rfl, r1⟩
  · exact ⟨vJ, rfl, r2⟩
  · exact ⟨vS, rfl, r3⟩
theorem list_nt {its : Array Value} {n : Nat} : (listOf its n).cls ≠ .type "tuple" := by intro h; injection h with h; revert h; decide
structure Left (w : World) (A : Ad) (σ : Sg) (left : List Int) (q : Nat) (st n : Led) : Prop where
  wd : Wd A n
  mu : Mu w A σ left q n
  keep : Keep A st n
inductive Wrd | n (p : Nm) | a (b : Ar)
noncomputable def Wrd.word : Wrd → Str | .n p => p.word | .a b => b.word
noncomputable def Wrd.isT : Wrd → Bool | .n p => p.isT | .a b => b.isT
noncomputable abbrev kindS (t : Bool) : Str := if t then "text" else "decimal"
end
section
theorem Spec.mono {w : World} {f : Addr} {vs : List Value} {d d' : Nat} {news : Led} {P P' : Value → Led → Prop} {R R' : Str → Led → Prop} (H : Spec w f vs d news P R) (hp : ∀ v n, P v n → P' v n) (hr : ∀ c n, R c n → R' c n) (hd' : d ≤ d' := by decide) : Spec w f vs d' news P' R' := by
  unfold Spec
  intro p loose mean mg mb dp un gd cn cs a ccd cl outer A₀ base h₀ L m s Q E B F X N T hk hd hu hret hout
  exact H _ _ _ _ _ _ _ _ _ _ _ _ _ _ _ _ _ _ _ _ _ _ B F X N T hk (by omega) (by omega) (fun v n h' tk' h => hret v n h' tk' (hp v n h)) fun c told k1 k2 k3 e di n h' tk' G h => hout c told k1 k2 k3 e di n h' tk' G (hr c n h)
theorem Spec.sub {w : World} {f : Addr} {vs : List Value} {d : Nat} {news : Led} {P P' : Value → Led → Prop} {R : Str → Led → Prop} (H : Spec w f vs d news P R) (hp : ∀ v n, P v n → ∃ n', (∀ p ∈ n', p ∈ n) ∧ P' v n') : Spec w f vs d news P' R := by
  unfold Spec
  intro p loose mean mg mb dp un gd cn cs a ccd cl outer A₀ base h₀ L m s Q E B F X N T hk hd hu hret hout
  exact H _ _ _ _ _ _ _ _ _ _ _ _ _ _ _ _ _ _ _ _ _ _ B F X N T hk hd hu (fun v n h' tk' h F' N' => let ⟨n', hs, hP⟩ := hp v n h; hret v n' h' tk' hP F' fun p hp => N' p (hs p hp)) hout
inductive T | whole (n : Int) | text (s : Str) | name (p : Nm) | fn | neg (n : Int) | item (b : Ar) (t : T)
inductive Rs | ok (v : V) (l : List Int) | bad (c : Str) (l : List Int)
noncomputable def idx (σ : Sg) (b : Ar) : Rs → Rs
  | .ok (.num i) l => if 0 ≤ i ∧ i ≤ 3 then .ok (σ.ar b i.toNat) l else .bad "BS" l
  | .ok (.txt _) l => .bad "TM" l
  | .bad c l => .bad c l
noncomputable def evF : List Int → Rs
  | [] => .bad "UF" []
  | x :: l => .ok (.num x) l
noncomputable def ev (σ : Sg) : T → List Int → Rs
  | .whole n, l => .ok (.num n) l
  | .text s, l => .ok (.txt s) l
  | .name p, l => .ok (σ.nm p) l
  | .fn, l => evF l
  | .neg n, l => .ok (.num (-n)) l
  | .item b t, l => idx σ b (ev σ t l)
inductive Tr3 (st : Led) (s : Str) (f : Tok → Value) (v : Value) : Prop | mk (t : Nat) (k1 k2 : Tok) (e : v = .ref t) (a : (t, tupOf [.str s k1, f k2] 0) ∈ st)
inductive TrF (Ms : List Nat) (st : Led) (v : Value) : Prop | mk (t : Nat) (k1 k2 : Tok) (l nl : Nat) (e : v = .ref t) (a : (t, tupOf [.str "fn" k1, .str "FNR" k2, .ref l] 0) ∈ st) (b : (l, listOf #[] nl) ∈ st) (c : l ∉ Ms)
inductive TrG (st : Led) (n : Int) (v : Value) : Prop | mk (t : Nat) (k1 : Tok) (t2 : Nat) (k2 k3 : Tok) (e : v = .ref t) (a : (t, tupOf [.str "neg" k1, .ref t2] 0) ∈ st) (b : (t2, tupOf [.str "whole" k2, .int n k3] 0) ∈ st)
inductive TrI (Ms : List Nat) (st : Led) (b : Ar) (P : Value → Prop) (v : Value) : Prop | mk (t : Nat) (k1 k2 : Tok) (l nl : Nat) (u : Value) (e : v = .ref t) (a : (t, tupOf [.str "item" k1, .str b.word k2, .ref l] 0) ∈ st) (c : (l, listOf #[u] nl) ∈ st) (d : l ∉ Ms) (p : P u)
noncomputable def Tr (Ms : List Nat) (st : Led) : T → Value → Prop
  | .whole n, v => Tr3 st "whole" (.int n) v
  | .text s, v => Tr3 st "text" (.str s) v
  | .name p, v => Tr3 st "name" (.str p.word) v
  | .fn, v => TrF Ms st v
  | .neg n, v => TrG st n v
  | .item b τ, v => TrI Ms st b (Tr Ms st τ) v
noncomputable def KeepM (Ms : List Nat) (st n : Led) : Prop := (∀ p ∈ st, p.1 ∉ Ms → p ∈ n) ∧ ∀ p ∈ st, p.2.cls = .type "tuple" → p ∈ n
theorem Tr.keep {Ms Ns : List Nat} {st n : Led} (K : KeepM Ns st n) (hs : ∀ a ∈ Ns, a ∈ Ms) {τ : T} : ∀ {v : Value}, Tr Ms st τ v → Tr Ms n τ v := by
  induction τ with
  | whole => intro v h; obtain ⟨t, k1, k2, e, a⟩ := h; exact ⟨t, k1, k2, e, K.2 _ a rfl⟩
  | text => intro v h; obtain ⟨t, k1, k2, e, a⟩ := h; exact ⟨t, k1, k2, e, K.2 _ a rfl⟩
  | name => intro v h; obtain ⟨t, k1, k2, e, a⟩ := h; exact ⟨t, k1, k2, e, K.2 _ a rfl⟩
  | fn => intro v h; obtain ⟨t, k1, k2, l, nl, e, a, b, c⟩ := h; exact ⟨t, k1, k2, l, nl, e, K.2 _ a rfl, K.1 _ b (fun h => c (hs _ h)), c⟩
  | neg => intro v h; obtain ⟨t, k1, t2, k2, k3, e, a, b⟩ := h; exact ⟨t, k1, t2, k2, k3, e, K.2 _ a rfl, K.2 _ b rfl⟩
  | item b τ ih => intro v h; obtain ⟨t, k1, k2, l, nl, u, e, a, b, c, d⟩ := h; exact ⟨t, k1, k2, l, nl, u, e, K.2 _ a rfl, K.1 _ b (fun h => c (hs _ h)), c, ih d⟩
theorem Tr.sub {Ms Ns : List Nat} {st : Led} (hs : ∀ a ∈ Ns, a ∈ Ms) {τ : T} : ∀ {v : Value}, Tr Ms st τ v → Tr Ns st τ v := by
  induction τ with
  | whole => intro v h; exact h
  | text => intro v h; exact h
  | name => intro v h; exact h
  | neg => intro v h; exact h
  | fn => intro v h; obtain ⟨t, k1, k2, l, nl, e, a, b, c⟩ := h; exact ⟨t, k1, k2, l, nl, e, a, b, fun h => c (hs _ h)⟩
  | item b τ ih => intro v h; obtain ⟨t, k1, k2, l, nl, u, e, a, b, c, d⟩ := h; exact ⟨t, k1, k2, l, nl, u, e, a, b, fun h => c (hs _ h), ih d⟩
theorem Keep.m {A : Ad} {st n : Led} (k : Keep A st n) : KeepM A.muts st n := k
theorem Tr.left {w : World} {A : Ad} {σ : Sg} {left : List Int} {q : Nat} {st n : Led} (K : Left w A σ left q st n) {τ : T} {v : Value} (h : Tr A.muts st τ v) : Tr A.muts n τ v := Tr.keep K.keep.m (fun _ h => h) h
theorem Left.trans {w : World} {A : Ad} {σ σ' : Sg} {left left' : List Int} {q q' : Nat} {st n n' : Led} (x : Left w A σ left q st n) (y : Left w A σ' left' q' n n') : Left w A σ' left' q' st n' := ⟨y.wd, y.mu, x.keep.trans y.keep⟩
theorem Left.pre {w : World} {A : Ad} {σ' : Sg} {left' : List Int} {q' : Nat} {st n n' : Led} (x : Keep A st n) (y : Left w A σ' left' q' n n') : Left w A σ' left' q' st n' := ⟨y.wd, y.mu, x.trans y.keep⟩
inductive PO (w : World) (A : Ad) (σ : Sg) (q : Nat) (st : Led) (r : Rs) (v : Value) (n : Led) : Prop | mk (y : V) (l' : List Int) (e : r = .ok y l') (L : Left w A σ l' q st n) (p : PV n v y)
inductive PN (w : World) (A : Ad) (σ : Sg) (q : Nat) (st : Led) (r : Rs) (v : Value) (n : Led) : Prop | mk (i : Int) (l' : List Int) (k : Tok) (e : r = .ok (.num i) l') (L : Left w A σ l' q st n) (p : v = .int i k)
inductive PEx {R : Type} (bad : Str → List Int → R) (w : World) (A : Ad) (σ : Sg) (q : Nat) (st : Led) (r : R) (c : Str) (n : Led) : Prop | mk (l' : List Int) (e : r = bad c l') (L : Left w A σ l' q st n)
section
variable {w : World} {A : Ad} {σ : Sg} {q : Nat} {st n : Led} {l : List Int} {v : Value} {r : Rs}
theorem GotI.po {x : Int} (h : GotI st x v n) (R : Left w A σ l q st st) (e : r = .ok (.num x) l) : PO w A σ q st r v n := by cases h; exact ⟨_, _, e, R, .inl ⟨_, rfl⟩⟩
theorem GotS.po {x : Str} (h : GotS st x v n) (R : Left w A σ l q st st) (e : r = .ok (.txt x) l) : PO w A σ q st r v n := by cases h; exact ⟨_, _, e, R, _, rfl⟩
end
theorem Mu.le {w : World} {A : Ad} {σ : Sg} {left : List Int} {q q' : Nat} {st : Led} (h : q ≤ q') (M : Mu w A σ left q st) : Mu w A σ left q' st := ⟨M.names, M.items, M.fnr, by obtain ⟨vs, n, a, b⟩ := M.asked; exact ⟨vs, n, a, Nat.le_trans b h⟩⟩
theorem Left.le {w : World} {A : Ad} {σ : Sg} {left : List Int} {q q' : Nat} {st n : Led} (h : q ≤ q') (x : Left w A σ left q st n) : Left w A σ left q' st n := ⟨x.wd, x.mu.le h, x.keep⟩
theorem Left.cons {w : World} {A : Ad} {σ : Sg} {left : List Int} {q : Nat} {st n : Led} {p : Addr × Obj} (x : Left w A σ left q st n) : Left w A σ left q st (p :: n) := ⟨x.wd.cons, x.mu.cons, x.keep.trans Keep.cons⟩
theorem Left.refl {w : World} {A : Ad} {σ : Sg} {left : List Int} {q : Nat} {st : Led} (W : Wd A st) (M : Mu w A σ left q st) : Left w A σ left q st st := ⟨W, M, Keep.refl⟩
theorem Left.drop {w : World} {A : Ad} {σ : Sg} {left : List Int} {q : Nat} {st n : Led} {p : Addr × Obj} (x : Left w A σ left q (p :: st) n) : Left w A σ left q st n := ⟨x.wd, x.mu, Keep.cons.trans x.keep⟩
theorem PV.cons {st : Led} {v : Value} {x : V} {p : Addr × Obj} (h : PV st v x) : PV (p :: st) v x := h.mono fun _ hp _ => .tail _ hp
theorem VR.cons {st : Led} {v : Value} {x : V} {p : Addr × Obj} (h : VR st v x) : VR (p :: st) v x := h.mono fun _ hp _ => .tail _ hp
theorem fresh_mut {w : World} {A : Ad} {σ : Sg} {left : List Int} {q : Nat} {st : Led} {D : Nat} (M : Mu w A σ left q st) (h : AllLt D st) : D ∉ A.muts := by
  obtain ⟨⟨oN, vI, vJ, vS, a1, -⟩, b, ⟨vs, n1, c1, -⟩, ⟨us, n2, d1, -⟩⟩ := M
  obtain ⟨_, _, _, _, _, e0, -⟩ := b .A
  obtain ⟨_, _, _, _, _, e1, -⟩ := b .W
  have h := ktn_ltOf h
  simp only [Ad.muts, List.mem_cons, List.not_mem_nil, or_false, not_or]
  exact ⟨Nat.ne_of_gt (h _ a1), Nat.ne_of_gt (h _ e0), Nat.ne_of_gt (h _ e1), Nat.ne_of_gt (h _ d1), Nat.ne_of_gt (h _ c1)⟩
theorem Left.offx {w : World} {A : Ad} {σ : Sg} {left : List Int} {q : Nat} {st n : Led} {h₀ h : Heap} {L : Addr} {a : Nat} {its : Array Value} {c : Nat} {o : Obj} (W : Wd A st) (lt : ∀ p ∈ st, p.1 ≠ a) (mt : a ∉ A.muts) (N : News h₀ L h n) (ha : (a, listOf its c) ∈ n) (x : Left w A σ left q st n) : Left w A σ left q st ((a, o) :: off n a) := by
  have up : ∀ p ∈ n, p.2.cls = .type "tuple" → p ∈ (a, o) :: off n a := fun p hp hc => .tail _ (off_mem.mpr ⟨hp, tup_ne N ha list_nt p hp hc⟩)
  have mu : ∀ p ∈ n, p.1 ∈ A.muts → p ∈ (a, o) :: off n a := fun p hp hm => .tail _ (off_mem.mpr ⟨hp, fun e => mt (e ▸ hm)⟩)
  refine ⟨fun p hp => .tail _ (off_mem.mpr ⟨x.wd p hp, lt p (W p hp)⟩), ?_, ⟨fun p hp hn => .tail _ (off_mem.mpr ⟨x.keep.1 p hp hn, lt p hp⟩), fun p hp hc => up p (x.keep.2 p hp hc) hc⟩⟩
  exact x.mu.map mu fun _ _ z => z.mono up
theorem Left.turn {w : World} {A : Ad} {σ : Sg} {left left' : List Int} {q q' : Nat} {st n : Led} {h₀ h : Heap} {L : Addr} {a : Nat} {its : Array Value} {c : Nat} (W : Wd A st) (M : Mu w A σ left q st) (lt : AllLt a st) (N : News h₀ L h n) (ha : (a, listOf its c) ∈ n) (x : Left w A σ left' q' st n) :
    (∀ o, Left w A σ left' q' st ((a, o) :: off n a)) ∧ OwnOff (off n a) [a] ∧ News h₀ L h ((a, listOf its c) :: off n a) ∧ (∀ p ∈ n, p.2.cls = .type "tuple" → p ∈ off n a) ∧ (∀ p ∈ st, p.1 ∉ A.muts → p ∈ off n a) ∧ ∀ p ∈ n, p.1 ≠ a → p ∈ off n a :=
  ⟨fun _ => Left.offx W (fun p hp => Nat.ne_of_lt (ktn_ltOf lt p hp)) (fresh_mut M lt) N ha x, off_own, news_off N ha, fun p hp hc => off_mem.mpr ⟨hp, tup_ne N ha list_nt p hp hc⟩,
    fun p hp hm => off_mem.mpr ⟨x.keep.1 p hp hm, Nat.ne_of_lt (ktn_ltOf lt p hp)⟩, fun p hp h => off_mem.mpr ⟨hp, h⟩⟩
inductive TrCI (Ms : List Nat) (st : Led) (b : Ar) (t u : Nat) : Prop | mk (k1 k2 : Tok) (l nl : Nat) (a : (t, tupOf [.str "item" k1, .str b.word k2, .ref l] 0) ∈ st) (c : (l, listOf #[.ref u] nl) ∈ st) (d : l ∉ Ms)
noncomputable def TrC (Ms : List Nat) (st : Led) : T → Nat → Nat → Prop
  | .item b _, t, u => TrCI Ms st b t u
  | .neg _, t, u => ∃ (k1 : Tok), (t, tupOf [.str "neg" k1, .ref u] 0) ∈ st
  | _, _, _ => False
noncomputable def T.sub : T → T
  | .item _ τ => τ
  | .neg n => .whole n
  | τ => τ
noncomputable def comb (σ : Sg) : T → Rs → Rs
  | .item b _, r => idx σ b r
  | .neg _, .ok (.num i) l => .ok (.num (-i)) l
  | _, r => r
theorem comb_bad {σ : Sg} {κ : T} {c : Str} {l : List Int} : comb σ κ (.bad c l) = .bad c l := by cases κ <;> rfl
theorem TrC.up {Ms : List Nat} {st st' : Led} (h1 : ∀ p ∈ st, p.2.cls = .type "tuple" → p ∈ st') (h2 : ∀ p ∈ st, p.1 ∉ Ms → p ∈ st') {κ : T} {t u : Nat} (h : TrC Ms st κ t u) : TrC Ms st' κ t u := by
  cases κ with
  | item => obtain ⟨k1, k2, l, nl, a, b, c⟩ := h; exact ⟨k1, k2, l, nl, h1 _ a rfl, h2 _ b c, c⟩
  | neg => obtain ⟨k1, a⟩ := h; exact ⟨k1, h1 _ a rfl⟩
  | _ => exact h.elim
theorem TrC.cons {Ms : List Nat} {st : Led} {x : Addr × Obj} {κ : T} {t u : Nat} (h : TrC Ms st κ t u) : TrC Ms (x :: st) κ t u := h.up (fun _ h _ => .tail _ h) fun _ h _ => .tail _ h
theorem TrC.ev {Ms : List Nat} {st : Led} {σ : Sg} {left : List Int} : ∀ {κ : T} {t u : Nat}, TrC Ms st κ t u → ev σ κ left = comb σ κ (ev σ κ.sub left)
  | .item _ _, _, _, _ => rfl
  | .neg _, _, _, _ => rfl
theorem list_ne {h₀ h : Heap} {L : Addr} {n : Led} (N : News h₀ L h n) {a b c d : Nat} {x y : Array Value} (h1 : (a, listOf x c) ∈ n) (h2 : (b, listOf y d) ∈ n) (hs : x.size ≠ y.size) : a ≠ b := fun e => by
  have z1 := (N _ h1).1
  have z2 := (N _ h2).1
  rw [e, z2] at z1
  have z := Option.some.inj z1
  have z4 : Data.seq y d = Data.seq x c := congrArg Obj.data z
  injection z4 with z5
  exact hs (by rw [z5])
noncomputable def T.simple : T → Prop
  | .whole n => -9 ≤ n ∧ n ≤ 9
  | .text _ => True
  | .name _ => True
  | .fn => True
  | _ => False
noncomputable def T.numb : T → Prop
  | .whole n => -9 ≤ n ∧ n ≤ 9
  | .text _ => False
  | .name p => p.isT = false
  | .fn => True
  | .neg n => -9 ≤ n ∧ n ≤ 9
  | .item b _ => b.isT = false
noncomputable def T.Ok : T → Prop
  | .item _ τ => τ.simple ∧ τ.numb
  | .neg n => -9 ≤ n ∧ n ≤ 9
  | τ => τ.simple
noncomputable def LOk (l : List Int) : Prop := l.length ≤ 100 ∧ ∀ x ∈ l, -9 ≤ x ∧ x ≤ 9
theorem LOk.tail {x : Int} {l : List Int} (h : LOk (x :: l)) : LOk l := ⟨by have := h.1; simp at this; omega, fun y hy => h.2 y (.tail _ hy)⟩
theorem ev_num {σ : Sg} (hσ : σ.Ok) : ∀ {τ : T} {l : List Int} {y : V} {r : List Int}, LOk l → τ.numb → ev σ τ l = .ok y r → ∃ i, y = .num i ∧ -9 ≤ i ∧ i ≤ 9
  | .whole n, l, y, r, _, h, e => by cases e; exact ⟨n, rfl, h⟩
  | .name p, l, y, r, _, h, e => by
    cases e
    have h2 := hσ.1 p
    have h : p.isT = false := h
    rw [h] at h2
    cases hp : σ.nm p with
    | num x => rw [hp] at h2; exact ⟨x, rfl, by have := h2.1; omega, by have := h2.2; omega⟩
    | txt x => rw [hp] at h2; exact h2.elim
  | .fn, l, y, r, hl, _, e => by
    cases l with
    | nil => cases e
    | cons x l => cases e; exact ⟨x, rfl, hl.2 x (.head _)⟩
  | .neg n, l, y, r, _, h, e => by cases e; exact ⟨-n, rfl, by have := h.2; omega, by have := h.1; omega⟩
  | .item b τ, l, y, r, hl, h, e => by
    have h : b.isT = false := h
    unfold ev at e
    cases hr : ev σ τ l with
    | bad c l' => rw [hr] at e; cases e
    | ok z l' =>
      rw [hr] at e
      cases z with
      | txt s => cases e
      | num i =>
        have e : (if 0 ≤ i ∧ i ≤ 3 then Rs.ok (σ.ar b i.toNat) l' else .bad "BS" l') = .ok y r := e
        by_cases hi : 0 ≤ i ∧ i ≤ 3
        · rw [if_pos hi] at e
          cases e
          have h2 := hσ.2 b i.toNat (by omega)
          rw [h] at h2
          cases hp : σ.ar b i.toNat with
          | num x => rw [hp] at h2; exact ⟨x, rfl, by have := h2.1; omega, by have := h2.2; omega⟩
          | txt x => rw [hp] at h2; exact h2.elim
        · rw [if_neg hi] at e; cases e
noncomputable def Rs.left : Rs → List Int
  | .ok _ l => l
  | .bad _ l => l
theorem ev_left {σ : Sg} : ∀ {τ : T} {l : List Int}, LOk l → LOk (ev σ τ l).left
  | .whole _, _, h => h
  | .text _, _, h => h
  | .name _, _, h => h
  | .fn, [], h => h
  | .fn, _ :: _, h => h.tail
  | .neg _, _, h => h
  | .item b τ, l, h => by
    have z := ev_left (σ := σ) (τ := τ) h
    unfold ev
    cases hr : ev σ τ l with
    | bad c l' => rw [hr] at z; exact z
    | ok y l' =>
      rw [hr] at z
      cases y with
      | txt s => exact z
      | num i =>
        show LOk (Rs.left (if 0 ≤ i ∧ i ≤ 3 then Rs.ok (σ.ar b i.toNat) l' else .bad "BS" l'))
        split <;> exact z
theorem Tr.ref {Ms : List Nat} {st : Led} {τ : T} {v : Value} (h : Tr Ms st τ v) : ∃ t, v = .ref t := by
  cases τ with
  | whole => obtain ⟨t, _, _, e, _⟩ := h; exact ⟨t, e⟩
  | text => obtain ⟨t, _, _, e, _⟩ := h; exact ⟨t, e⟩
  | name => obtain ⟨t, _, _, e, _⟩ := h; exact ⟨t, e⟩
  | fn => obtain ⟨t, _, _, _, _, e, _⟩ := h; exact ⟨t, e⟩
  | neg => obtain ⟨t, _, _, _, _, e, _⟩ := h; exact ⟨t, e⟩
  | item => obtain ⟨t, _, _, _, _, _, e, _⟩ := h; exact ⟨t, e⟩
end
section
section
open PySem.Spec PySem.Calls PyProof.Rows.LCg
variable {prog : Program} {w : World} {A : Around} {E : Value → Shared → Prop} {s : Shared} {h₀ : Heap} {L : Addr} {m : Str → Option Value} {env : Env}
noncomputable def SrcV (prog : Program) (w : World) (A : Around) (h₀ : Heap) (L : Addr) (m : Str → Option Value) (env : Env) (elt : Expr) (x : Str) (scope : Scope) (cl : List (Str × Addr)) (Fin : Shared → List Value → List (Addr × Obj) → Prop) (xv : Value) (s₁ : Shared) : Prop :=
  ∃ I ax u k news, xv = .ref I ∧ A.handled = none ∧ Fr h₀ L s₁.heap m ∧ News h₀ L s₁.heap ((I, revObj ax ((([u] : List Value).length : Int) - 1)) :: news) ∧ (∀ p ∈ news, p.1 ≠ I) ∧ (ax, ({ cls := .type "list", data := .seq #[u] k } : Obj)) ∈ news ∧
    ∀ g, CompRest prog w A h₀ L m env elt x scope cl { s₁ with heap := g } (SrcAt h₀ ax #[u]) (fun i v => (#[u] : Array Value)[i]? = some v) (Fin { s₁ with heap := g }) 1 0 [] news
theorem SrcV.intro {elt : Expr} {x : Str} {scope : Scope} {cl : List (Str × Addr)} {Fin : Shared → List Value → List (Addr × Obj) → Prop} {ax I : Addr} {u : Value} {k : Nat} {news : List (Addr × Obj)} {s₁ : Shared}
    (hh : A.handled = none) (F : Fr h₀ L s₁.heap m) (N : News h₀ L s₁.heap ((I, revObj ax ((([u] : List Value).length : Int) - 1)) :: news)) (lt : AllLt I news) (hm : (ax, ({ cls := .type "list", data := .seq #[u] k } : Obj)) ∈ news)
    (h : ∀ g, CompRest prog w A h₀ L m env elt x scope cl { s₁ with heap := g } (SrcAt h₀ ax #[u]) (fun i v => (#[u] : Array Value)[i]? = some v) (Fin { s₁ with heap := g }) 1 0 [] news) :
    SrcV prog w A h₀ L m env elt x scope cl Fin (.ref I) s₁ := ⟨I, ax, u, k, news, rfl, hh, F, N, fun p hp => Nat.ne_of_lt (ktn_ltOf lt p hp), hm, h⟩
theorem end1 {oI oC oD : Obj} {I C D : Addr} {t : Addr × Obj} {S : List (Addr × Obj) → Prop} {rest : Value → List (Addr × Obj) → Prop} {y : Value} {h' : Heap} {tk : Nat} {r : List (Addr × Obj)} {s₁ : Shared}
    (F : Fr h₀ L h' m) (N : News h₀ L h' (t :: (I, oI) :: (C, oC) :: (D, oD) :: r)) (off : Off3 I C D r) (o1 : t.1 ≠ I ∧ t.1 ≠ C ∧ t.1 ≠ D) (hS : S (t :: r)) (hr : rest y (t :: r)) :
    CompEnd h₀ L m s₁ I oI C oC D oD S rest y { s₁ with heap := h', toks := tk } :=
  CompEnd.intro F N (t :: r) (fun p hp => by
    simp only [List.mem_cons] at hp ⊢
    rcases hp with h | h | h | h | h <;> simp [h]) ⟨o1, off⟩ hS hr
theorem rev1 (hh : A.handled = none) (I l : Addr) (hne : l ≠ I) (u : Value) :
    Walks prog w A I [I, l] [I] 1 (fun i v => (#[u] : Array Value)[i]? = some v) (fun i h => i ≤ 1 ∧ h.IsRevIter I l (((1 : Nat) : Int) - 1 - (i : Int)) ∧ h.IsList l #[u]) :=
  let W := Walks.listRev (prog := prog) (w := w) hh I l hne #[u]
  { sub := W.sub, frame := W.frame, done := W.done, self := W.self,
    item := fun i s Q E hi st hQ => W.item i s Q E hi st fun v h' tk hP => hQ v h' tk (by
      have : i = 0 := Nat.lt_one_iff.mp hi
      subst this; exact hP) }
theorem ListComp_R {elt iter : Expr} {x : Str} {px : Pos} {scope : Scope} {cl : List (Str × Addr)} {pos : Pos} {Q : Value → Shared → Prop} (F₀ : Fr h₀ L s.heap m)
    (hclos : closureFor scope env = pure cl) (hcell : ∀ y ∈ scope.names, y.2 ≠ .cell) (hkind : scope.kind = .function)
    (hnames : ∀ y ∈ scope.names, y.2 = .local → scope.names.lookup y.1 = some .local) (hx : scope.names.lookup x = some .local)
    (h : wpAny (model prog w) A (eval iter env) (SrcV prog w A h₀ L m env elt x scope cl (fun s₂ => FinE h₀ L m s₂ Q)) E s)
    (hs : ∀ x, foldedSetIterable iter env x = pure x := by intro _; rfl) :
    wpAny (model prog w) A (eval (.ListComp elt [⟨.Name x px, iter, [], 0⟩] scope pos) env) Q E s := by
  rw [eval_ListComp]
  refine wpAny_comprehension_free (use := none) rfl hs hclos hkind hnames (wpAny_mono h (fun xv s₁ h₁ => ?_) fun _ _ e => e)
  obtain ⟨I, ax, u, k, news, rfl, hh, F, N, off, hm, R⟩ := h₁
  have hI := N _ (List.mem_cons_self ..)
  have hax := N _ (List.mem_cons_of_mem _ hm)
  have hl : s₁.heap.IsList ax #[u] := ⟨_, hax.1, rfl, k, rfl⟩
  have hne : ax ≠ I := off _ hm
  have hit : s₁.heap.IsRevIter I ax (((1 : Nat) : Int) - 1) := ⟨_, hI.1, rfl, rfl⟩
  refine wpAny_pyIter_revIter hit ?_
  refine block_U (rev1 hh I ax hne u) (by rw [sizeLine_eq]; decide) (fun i h st => by obtain ⟨o, e, _⟩ := st.2.1; exact ⟨o, e⟩)
    (fun i h h' o nw st e e' k N S => ⟨st.1, by obtain ⟨o', q, r⟩ := st.2.1; rw [e] at q; cases q; exact ⟨o, e', r⟩, S.list k N⟩)
    hcell hkind hx ⟨Nat.zero_le _, ?_, hl⟩ (fun b hb => ?_) F (fun p hp => N p (List.mem_cons_of_mem _ hp)) (fun e => hI.2.1 e.symm) hI.2.2 off (.inr ⟨_, hm, rfl, k, rfl⟩) (R s₁.heap) ?_
  · show s₁.heap.IsRevIter I ax (((1 : Nat) : Int) - 1 - ((0 : Nat) : Int))
    exact hit
  · rcases List.mem_cons.mp hb with rfl | hb
    · exact Heap.lt_size hI.1
    · rw [List.mem_singleton.mp hb]; exact Heap.lt_size hax.1
  · intro D C h tk m' ys news' F' N' o1 hn hC₀ hD₀ hCL hDL hCD offC fin
    refine ⟨m', hn, fun h'' hs'' => fin D h'' tk (F'.change hs'' hCL hC₀) (fun p hp => ?_) o1⟩
    refine ⟨hs''.extBut _ _ ?_ (N' p hp).1, (N' p hp).2⟩
    rcases List.mem_cons.mp hp with rfl | hp
    · exact Ne.symm hCD
    · exact offC p hp
end
end
section
section
variable {w : World} {A : Around} {E : Value → Shared → Prop} {s : Shared} {h₀ h : Heap} {L a : Nat} {m : Str → Option Value} {news news' : Led} {es : List DictEntry} {n : Nat} {x : Str} {t : Tok}
theorem not_mods (X : (K w.params).In h₀) (N : News h₀ L h news) {o : Obj} (hm : (a, o) ∈ news) : (a == sysModules) = false := by
  have h1 := X 1 _ rfl
  have h2 := (N _ hm).2.2
  rw [beq_eq_false_iff_ne]
  intro e
  have e' : a = 1 := e
  subst e'
  rw [h1] at h2
  cases h2
inductive SaysD (w : World) (f : Str → Option Value) (o : Obj) : Prop | mk (es : Array DictEntry) (ep : Nat) (e : o.data = .dict es ep) (k : KeysOf (strKind PG w) es) (s : ∀ k, findBy Value.isStrOf es k = f k)
noncomputable def SaysO (w : World) (f : Str → Option Value) (o : Obj) : Prop := o.ExactDict ∧ SaysD w f o
theorem says_map {o : Obj} {f : Str → Option Value} (S : SaysO w f o) (ho : h.get? a = some o) : h.MapOf (strKind PG w) a f := by
  obtain ⟨e, es, ep, hd, hk, hf⟩ := S
  exact ⟨o, es, ep, ho, e, hd, hk, hf⟩
theorem says_lit (hk : KeysLit w.params es) : SaysO w (fun k => findBy Value.isStrOf es.toArray k) (dictOf es n) :=
  ⟨⟨rfl, rfl, rfl⟩, es.toArray, n, rfl, fun e he => by
    obtain ⟨x, t, e1, e2⟩ := hk.all e (by simpa using he)
    exact ⟨x, by rw [e1]; exact strKind_is PG w x t, e2⟩, fun _ => rfl⟩
theorem says_at {r : Option Value} (e : getL x es = some r) : findBy Value.isStrOf es.toArray x = r := by
  unfold getL at e
  have q : (fun d : DictEntry => Value.isStrOf x d.key) = fun d => d.key.isStr x := funext fun d => (isStr_of x d.key).symm
  unfold findBy
  rw [List.find?_toArray, q]
  split at e
  · rename_i e' h'; rw [h']; exact Option.some.inj e
  · rename_i h'
    rw [h']
    split at e
    · cases e
    · exact Option.some.inj e
theorem dictO_says {kvs : List (Str × Value)} {o : Obj} (D : DictO w kvs o) : SaysO w (valueAt kvs) o := by
  obtain ⟨e, es, ep, hd, hk, hp, hn⟩ := D
  refine ⟨e, es, ep, hd, hk, fun k => ?_⟩
  rw [← hp.find k]
  obtain ⟨l⟩ := es
  unfold findBy
  rw [List.find?_toArray]
  rfl
theorem in_S {f : Str → Option Value} {o : Obj} {Q : Value → Shared → Prop} (X : (K w.params).In h₀) (N : News h₀ L s.heap news) (hm : (a, o) ∈ news) (S : SaysO w f o)
    (h : Q (.bool (f x).isSome) { s with toks := s.toks + 1 }) : wpAny (MG w) A (compareOp .In (.str x t) (.ref a)) Q E s :=
  wpAny_in_of (strKind_is PG w x t) (not_mods X N hm) (says_map S (N _ hm).1) h
theorem in_L {r : Option Value} {Q : Value → Shared → Prop} (X : (K w.params).In h₀) (N : News h₀ L s.heap news) (hm : (a, dictOf es n) ∈ news) (hk : KeysLit w.params es) (e : getL x es = some r)
    (h : Q (.bool r.isSome) { s with toks := s.toks + 1 }) : wpAny (MG w) A (compareOp .In (.str x t) (.ref a)) Q E s :=
  in_S X N hm (says_lit hk) (by rw [says_at e]; exact h)
theorem item_S {value slice : Expr} {f : Str → Option Value} {o : Obj} {v : Value} {Q : Value → Shared → Prop} (N : News h₀ L s.heap news) (hm : (a, o) ∈ news) (S : SaysO w f o) (e : f x = some v)
    (h : Q v { s with toks := s.toks + 1 }) (hs : subscripted slice false (.ref a) (.str x t) = operate [.ref a, .str x t] (getItem (.ref a) (.str x t)) := by with_unfolding_all rfl) :
    wpAny (MG w) A (subscriptTail value slice (.ref a) (.str x t)) Q E s :=
  have hm' := says_map S (N _ hm).1
  tail_any hm'.typeIs slot_dict_getitem.lookup (wpAny_getItem_of (strKind_is PG w x t) hm' e h) hs
theorem item_L {value slice : Expr} {v : Value} {Q : Value → Shared → Prop} (N : News h₀ L s.heap news) (hm : (a, dictOf es n) ∈ news) (hk : KeysLit w.params es) (e : getL x es = some (some v))
    (h : Q v { s with toks := s.toks + 1 }) (hs : subscripted slice false (.ref a) (.str x t) = operate [.ref a, .str x t] (getItem (.ref a) (.str x t)) := by with_unfolding_all rfl) :
    wpAny (MG w) A (subscriptTail value slice (.ref a) (.str x t)) Q E s := item_S N hm (says_lit hk) (says_at e) h hs
theorem method_get {o : Obj} {f : Str → Option Value} {pl : Sem Bool} {Q : Value × List Value → Shared → Prop} (N : News h₀ L s.heap news) (hm : (a, o) ∈ news) (S : SaysO w f o) (h : Q (.builtin "dict.get", [.ref a]) s) :
    wpAny (MG w) A (getMethod (.ref a) "get" pl) Q E s :=
  have hm' := says_map S (N _ hm).1
  getMethod_builtin hm'.typeIs PySem.F.plainAttrs_dict PySem.F.slot_dict_get PySem.F.type_dict_get hm'.noDict h
theorem method_getL {pl : Sem Bool} {Q : Value × List Value → Shared → Prop} (N : News h₀ L s.heap news) (hm : (a, dictOf es n) ∈ news) (hk : KeysLit w.params es) (h : Q (.builtin "dict.get", [.ref a]) s) :
    wpAny (MG w) A (getMethod (.ref a) "get" pl) Q E s := method_get N hm (says_lit hk) h
theorem call_getS {o : Obj} {f : Str → Option Value} {dflt : Value} {Q : Value → Shared → Prop} (X : (K w.params).In h₀) (N : News h₀ L s.heap news) (hm : (a, o) ∈ news) (S : SaysO w f o)
    (h : Q ((f x).getD dflt) { s with toks := s.toks + 1 }) : wpAny (MG w) A (call (.builtin "dict.get") [.ref a, .str x t, dflt]) Q E s :=
  have hm' := says_map S (N _ hm).1
  call_meetsIn PySem.F.slot_dict_get hm'.typeIs PySem.F.entry_dict_get (PySem.F.args_dict_get_3 _ _ _) (meets_dict_get_default (strKind PG w) a (strKind_is PG w x t) (not_mods X N hm) dflt) ⟨_, hm', h⟩
theorem call_getL {dflt : Value} {r : Option Value} {Q : Value → Shared → Prop} (X : (K w.params).In h₀) (N : News h₀ L s.heap news) (hm : (a, dictOf es n) ∈ news) (hk : KeysLit w.params es) (e : getL x es = some r)
    (h : Q (r.getD dflt) { s with toks := s.toks + 1 }) : wpAny (MG w) A (call (.builtin "dict.get") [.ref a, .str x t, dflt]) Q E s :=
  call_getS X N hm (says_lit hk) (by rw [says_at e]; exact h)
theorem call_abs_nn {b : Int} {Q : Value → Shared → Prop} (hb : 0 ≤ b) (hq : ∀ u tk, Q (.int b u) { s with toks := tk }) : wpAny (MG w) A (call (.builtin "abs") [.int b t]) Q E s :=
  call_abs_int fun u tk => by rw [if_neg (by omega)]; exact hq u tk
theorem in_S1 {f : Str → Option Value} {o : Obj} {v : Value} {Q : Value → Shared → Prop} (X : (K w.params).In h₀) (N : News h₀ L s.heap news) (hm : (a, o) ∈ news) (S : SaysO w f o) (e : f x = some v)
    (h : Q (.bool true) { s with toks := s.toks + 1 }) : wpAny (MG w) A (compareOp .In (.str x t) (.ref a)) Q E s := in_S X N hm S (by rw [e]; exact h)
theorem notin_L {r : Option Value} {Q : Value → Shared → Prop} (X : (K w.params).In h₀) (N : News h₀ L s.heap news) (hm : (a, dictOf es n) ∈ news) (hk : KeysLit w.params es) (e : getL x es = some r)
    (h : Q (.bool (!r.isSome)) { s with toks := s.toks + 1 }) : wpAny (MG w) A (compareOp .NotIn (.str x t) (.ref a)) Q E s :=
  wpAny_notIn_of (strKind_is PG w x t) (not_mods X N hm) (says_map (says_lit hk) (N _ hm).1) (by rw [says_at e]; exact h)
theorem eq_str_b {y : Str} {u : Tok} {b : Bool} {Q : Value → Shared → Prop} (e : (x == y) = b) (h : Q (.bool b) s) : wpAny (MG w) A (compareOp .Eq (.str x t) (.str y u)) Q E s := eq_str (by subst e; exact h)
end
end
section
section
variable {w : World} {A : Around} {E : Value → Shared → Prop} {s : Shared} {h₀ h : Heap} {L a : Nat} {m : Str → Option Value} {news news' : Led} {n : Nat} {t : Tok}
theorem item_listN {value slice : Expr} {vs : Array Value} {i : Int} {v : Value} {Q : Value → Shared → Prop} (N : News h₀ L s.heap news) (hm : (a, listOf vs n) ∈ news) (h0 : 0 ≤ i) (hh : i ≤ 9) (e : vs[i.toNat]? = some v) (h : Q v s)
    (hs : subscripted slice false (.ref a) (.int i t) = operate [.ref a, .int i t] (getItem (.ref a) (.int i t)) := by with_unfolding_all rfl) :
    wpAny (MG w) A (subscriptTail value slice (.ref a) (.int i t)) Q E s :=
  have hL : s.heap.IsList a vs := ⟨_, (N _ hm).1, rfl, n, rfl⟩
  tail_any hL.typeIs slot_list_getitem.lookup (wpAny_getItem_list hL h0 (by omega) e h) hs
theorem items_at {σ : Sg} {st : Led} {b : Ar} {v0 v1 v2 v3 : Value} {i : Int} (h0 : 0 ≤ i) (h1 : i ≤ 3) (r0 : VR st v0 (σ.ar b 0)) (r1 : VR st v1 (σ.ar b 1)) (r2 : VR st v2 (σ.ar b 2)) (r3 : VR st v3 (σ.ar b 3)) :
    ∃ v, (#[v0, v1, v2, v3] : Array Value)[i.toNat]? = some v ∧ VR st v (σ.ar b i.toNat) := by
  rcases four h0 h1 with rfl | rfl | rfl | rfl
  · exact ⟨v0, rfl, r0⟩
  · exact ⟨v1, rfl, r1⟩
  · exact ⟨v2, rfl, r2⟩
  · exact ⟨v3, rfl, r3⟩
theorem unr_var {its : Led} {rest : (Str → Option Value) → Led → Prop} {s₁ : Shared} {h' : Heap} {tk : Nat} {m' : Str → Option Value} {L : Addr} (F : Fr h₀ L h' m') (N : News h₀ L h' (its ++ news))
    (off : ∀ p ∈ news, ∀ q ∈ its, p.1 ≠ q.1) (r : rest m' news) : UnrEndW h₀ L s₁ its rest { s₁ with heap := h', toks := tk } := ⟨h', tk, m', news, rfl, F, N, off, r⟩
theorem Rz.sub {base G : Heap} {l : List Env} {e di : Addr} {nw nw' : Led} (R : Rz base G l e di nw h) (hs : ∀ p ∈ nw', p ∈ nw) : Rz base G l e di nw' h := by
  obtain ⟨B, a, b, c, d⟩ := R
  exact ⟨B, a, b, fun q hq => c q (hs q hq), d⟩
theorem sub5 {x a b c d e : Addr × Obj} : ∀ p ∈ (x :: news), p ∈ x :: a :: b :: c :: d :: e :: news := fun p hp => by
  rcases List.mem_cons.mp hp with rfl | hp
  · exact .head _
  · exact .tail _ (.tail _ (.tail _ (.tail _ (.tail _ (.tail _ hp)))))
theorem setItem_D {kvs : List (Str × Value)} {x : Str} {v : Value} {o : Obj} {g : Obj → Led} {Q : Unit → Shared → Prop} (F : Fr h₀ L s.heap m) (N : News h₀ L s.heap news) (U : UpdF a o news g) (D : DictO w kvs o) (hz : kvs.length ≤ 1000)
    (hq : ∀ o' h', DictO w (stored kvs x v) o' → Fr h₀ L h' m → News h₀ L h' (g o') → Q () { s with heap := h', toks := s.toks + 1 }) : wpAny (MG w) A (setItem (.ref a) (.str x t) v) Q E s := by
  obtain ⟨pre, post, rfl, hg, o1, o2⟩ := U.split
  have z := N (a, o) (List.mem_append.mpr (.inr (.head _)))
  have hd : s.heap.DictOf (strKind PG w) a kvs := by
    obtain ⟨e, es, ep, hd, hk, hp, hn⟩ := D
    exact ⟨o, es, ep, z.1, e, hd, hk, hp, hn⟩
  refine wpAny_setItem_pairs (strKind_is PG w x t) hd (fun h' hm hs => ?_) (by rw [sizeLine_eq]; omega)
  obtain ⟨o', es, ep, ho', e, hd', hk, hp, hn⟩ := hm
  refine hq o' h' ⟨e, es, ep, hd', hk, hp, hn⟩ (F.change hs z.2.1 z.2.2) ?_
  rw [hg]
  exact news_set N o1 o2 hs ho'
end
noncomputable def Sg.setN (σ : Sg) (x : Nm) (y : V) : Sg := ⟨fun p => match x, p with | .I, .I => y | .J, .J => y | .S, .S => y | _, p => σ.nm p, σ.ar⟩
noncomputable def Sg.setA (σ : Sg) (b : Ar) (i : Nat) (y : V) : Sg := ⟨σ.nm, fun c j => match b, c with | .A, .A => if j = i then y else σ.ar c j | .W, .W => if j = i then y else σ.ar c j | _, c => σ.ar c j⟩
section
variable {w : World} {h₀ h : Heap} {L : Addr} {A : Ad} {σ : Sg} {left : List Int} {q : Nat} {st : Led}
theorem Mu.put_name {x : Nm} {y : V} {u : Value} {o o' : Obj} {vI vJ vS : Value} {own : Led} (O : A.Ok w) (N : News h₀ L h st) (hm : (A.aN, o) ∈ st) (ho : o.cls ≠ .type "tuple") (M : Mu w A σ left q st) (r1 : VR st vI (σ.nm .I)) (r2 : VR st vJ (σ.nm .J)) (r3 : VR st vS (σ.nm .S))
    (D : DictO w (stored [(("I" : Str), vI), ("J", vJ), ("S$", vS)] x.word u) o') (hu : VR (own ++ st) u y) : Mu w A (σ.setN x y) left q (own ++ ((A.aN, o') :: off st A.aN)) := by
  obtain ⟨n1, n2, n3, n4, n5, n6, n7, n8, n9, n10⟩ := mut_ne O
  have up : ∀ p ∈ st, p.2.cls = .type "tuple" → p ∈ own ++ ((A.aN, o') :: off st A.aN) := fun p hp hc => List.mem_append.mpr (.inr (.tail _ (off_mem.mpr ⟨hp, tup_ne N hm ho p hp hc⟩)))
  have upo : ∀ p ∈ own ++ st, p.2.cls = .type "tuple" → p ∈ own ++ ((A.aN, o') :: off st A.aN) := fun p hp hc => by
    rcases List.mem_append.mp hp with hp | hp
    · exact List.mem_append.mpr (.inl hp)
    · exact up p hp hc
  have st' : ∀ p ∈ st, p.1 ≠ A.aN → p ∈ own ++ ((A.aN, o') :: off st A.aN) := fun p hp hn => List.mem_append.mpr (.inr (.tail _ (off_mem.mpr ⟨hp, hn⟩)))
  obtain ⟨-, b, ⟨vs, m1, c1, c2⟩, ⟨us, m2, d1, d2⟩⟩ := M
  refine ⟨?_, fun c => ?_, ⟨vs, m1, st' _ c1 (Ne.symm n4), c2⟩, ⟨us, m2, st' _ d1 (Ne.symm n3), d2⟩⟩
  · have hh : (A.aN, o') ∈ own ++ ((A.aN, o') :: off st A.aN) := List.mem_append.mpr (.inr (.head _))
    cases x
    · exact ⟨o', u, vJ, vS, hh, D, hu.mono upo, r2.mono up, r3.mono up⟩
    · exact ⟨o', vI, u, vS, hh, D, r1.mono up, hu.mono upo, r3.mono up⟩
    · exact ⟨o', vI, vJ, u, hh, D, r1.mono up, r2.mono up, hu.mono upo⟩
  · obtain ⟨v0, v1, v2, v3, n, e0, e1, e2, e3, e4⟩ := b c
    exact ⟨v0, v1, v2, v3, n, st' _ e0 (by cases c <;> (intro e; simp_all)), e1.mono up, e2.mono up, e3.mono up, e4.mono up⟩
theorem Wd.app {own : Led} (W : Wd A st) : Wd A (own ++ st) := fun p hp => List.mem_append.mpr (.inr (W p hp))
theorem Keep.app {own n : Led} (k : Keep A st n) : Keep A st (own ++ n) := ⟨fun p hp hn => List.mem_append.mpr (.inr (k.1 p hp hn)), fun p hp hc => List.mem_append.mpr (.inr (k.2 p hp hc))⟩
end
end
section
noncomputable abbrev set4 (i : Nat) (u v0 v1 v2 v3 : Value) : Array Value := #[if i = 0 then u else v0, if i = 1 then u else v1, if i = 2 then u else v2, if i = 3 then u else v3]
section
variable {w : World} {Ar' : Around} {E : Value → Shared → Prop} {s : Shared} {h₀ h : Heap} {L a : Nat} {m : Str → Option Value} {news news' : Led} {n : Nat} {t : Tok}
theorem upd_app {o o' : Obj} {post : Led} (o2 : ∀ p ∈ post, p.1 ≠ a) : ∀ {pre : Led}, (∀ p ∈ pre, p.1 ≠ a) → Upd a o o' (pre ++ (a, o) :: post) (pre ++ (a, o') :: post)
  | [], _ => .head o2
  | x :: _, h => .tail (h x (.head _)) (upd_app o2 fun p hp => h p (.tail _ hp))
theorem setItem_it {v0 v1 v2 v3 u : Value} {i : Int} {g : Obj → Led} {Q : Unit → Shared → Prop} (F : Fr h₀ L s.heap m) (N : News h₀ L s.heap news) (h0 : 0 ≤ i) (h3 : i ≤ 3) (U : UpdF a (listOf #[v0, v1, v2, v3] n) news g)
    (hq : ∀ h', Fr h₀ L h' m → News h₀ L h' (g (listOf (set4 i.toNat u v0 v1 v2 v3) n)) → Q () { s with heap := h' }) : wpAny (MG w) Ar' (setItem (.ref a) (.int i t) u) Q E s := by
  obtain ⟨pre, post, rfl, hg, o1, o2⟩ := U.split
  have z := N (a, listOf #[v0, v1, v2, v3] n) (List.mem_append.mpr (.inr (.head _)))
  have key : ∀ q : List Value, ki_setL [v0, v1, v2, v3] i.toNat u = some q → q.toArray = set4 i.toNat u v0 v1 v2 v3 → wpAny (MG w) Ar' (setItem (.ref a) (.int i t) u) Q E s := fun q e e2 => by
    refine ki_set (its := #[v0, v1, v2, v3]) (n := n) (D := a) (news' := pre ++ (a, listOf q.toArray n) :: post) F N h0 (by omega) e ?_ fun h' F' N' => hq h' F' ?_
    · exact upd_app o2 o1
    · rw [hg, ← e2]; exact N'
  rcases four h0 h3 with rfl | rfl | rfl | rfl
  · exact key [u, v1, v2, v3] rfl rfl
  · exact key [v0, u, v2, v3] rfl rfl
  · exact key [v0, v1, u, v3] rfl rfl
  · exact key [v0, v1, v2, u] rfl rfl
end
section
variable {w : World} {h₀ h : Heap} {L : Addr} {A : Ad} {σ : Sg} {left : List Int} {q : Nat} {st : Led}
theorem setA_at {b : Ar} {i : Nat} {y : V} (j : Nat) : (σ.setA b i y).ar b j = if j = i then y else σ.ar b j := by cases b <;> rfl
theorem setA_ne {b c : Ar} {i : Nat} {y : V} (h : c ≠ b) (j : Nat) : (σ.setA b i y).ar c j = σ.ar c j := by cases b <;> cases c <;> first | rfl | exact absurd rfl h
theorem VR.ite {st : Led} {i j : Nat} {u v : Value} {y z : V} (hu : VR st u y) (hv : VR st v z) : VR st (if i = j then u else v) (if j = i then y else z) := by
  by_cases e : i = j
  · rw [if_pos e, if_pos e.symm]; exact hu
  · rw [if_neg e, if_neg (Ne.symm e)]; exact hv
theorem Mu.new_item {w : World} {A : Ad} {σ : Sg} {left : List Int} {q : Nat} {st n : Led} {b : Ar} {i : Nat} {y : V} {u v0 v1 v2 v3 : Value} {n' : Nat} (O : A.Ok w) (M : Mu w A σ left q st)
    (r0 : VR st v0 (σ.ar b 0)) (r1 : VR st v1 (σ.ar b 1)) (r2 : VR st v2 (σ.ar b 2)) (r3 : VR st v3 (σ.ar b 3)) (h1 : ∀ p ∈ st, p.1 ≠ A.it b → p ∈ n) (h2 : ∀ p ∈ st, p.2.cls = .type "tuple" → p ∈ n) (hm : (A.it b, listOf (set4 i u v0 v1 v2 v3) n') ∈ n) (hu : VR n u y) : Mu w A (σ.setA b i y) left q n := by
  obtain ⟨n1, n2, n3, n4, n5, n6, n7, n8, n9, n10⟩ := mut_ne O
  obtain ⟨a0, bb, ⟨vs, m1, c1, c2⟩, ⟨us, m2, d1, d2⟩⟩ := M
  refine ⟨nm_el a0 fun oN vI vJ vS a1 a2 a3 a4 a5 => nm_mk (h1 _ a1 (by cases b <;> assumption)) a2 (a3.mono h2) (a4.mono h2) (a5.mono h2), fun c => ?_, ⟨vs, m1, h1 _ c1 (by cases b <;> exact Ne.symm (by assumption)), c2⟩, ⟨us, m2, h1 _ d1 (by cases b <;> exact Ne.symm (by assumption)), d2⟩⟩
  by_cases e : c = b
  · subst e
    refine it_mk hm ?_ ?_ ?_ ?_
    · rw [setA_at]; exact VR.ite hu (r0.mono h2)
    · rw [setA_at]; exact VR.ite hu (r1.mono h2)
    · rw [setA_at]; exact VR.ite hu (r2.mono h2)
    · rw [setA_at]; exact VR.ite hu (r3.mono h2)
  · refine it_el (bb c) ?_
    intro z0 z1 z2 z3 n e0 e1 e2 e3 e4
    exact it_mk (h1 _ e0 (by cases b <;> cases c <;> first | exact absurd rfl e | assumption | exact Ne.symm (by assumption))) ((setA_ne e 0).symm ▸ e1.mono h2) ((setA_ne e 1).symm ▸ e2.mono h2) ((setA_ne e 2).symm ▸ e3.mono h2) ((setA_ne e 3).symm ▸ e4.mono h2)
theorem Mu.put_item {b : Ar} {i : Nat} {y : V} {u v0 v1 v2 v3 : Value} {n n' : Nat} {own : Led} (O : A.Ok w) (N : News h₀ L h st) (hm : (A.it b, listOf #[v0, v1, v2, v3] n) ∈ st) (M : Mu w A σ left q st)
    (r0 : VR st v0 (σ.ar b 0)) (r1 : VR st v1 (σ.ar b 1)) (r2 : VR st v2 (σ.ar b 2)) (r3 : VR st v3 (σ.ar b 3)) (hu : VR (own ++ st) u y) : Mu w A (σ.setA b i y) left q (own ++ ((A.it b, listOf (set4 i u v0 v1 v2 v3) n') :: off st (A.it b))) := by
  have up : ∀ p ∈ st, p.2.cls = .type "tuple" → p ∈ own ++ ((A.it b, listOf (set4 i u v0 v1 v2 v3) n') :: off st (A.it b)) := fun p hp hc => List.mem_append.mpr (.inr (.tail _ (off_mem.mpr ⟨hp, tup_ne N hm list_nt p hp hc⟩)))
  have upo : ∀ p ∈ own ++ st, p.2.cls = .type "tuple" → p ∈ own ++ ((A.it b, listOf (set4 i u v0 v1 v2 v3) n') :: off st (A.it b)) := fun p hp hc => by
    rcases List.mem_append.mp hp with hp | hp
    · exact List.mem_append.mpr (.inl hp)
    · exact up p hp hc
  exact M.new_item O r0 r1 r2 r3 (fun p hp hn => List.mem_append.mpr (.inr (.tail _ (off_mem.mpr ⟨hp, hn⟩)))) up (List.mem_append.mpr (.inr (.head _))) (hu.mono upo)
theorem news_off2 {x : Addr × Obj} {l : Led} {a : Nat} {o : Obj} (N : News h₀ L h (x :: l)) (hm : (a, o) ∈ l) : News h₀ L h (x :: (a, o) :: off l a) := fun p hp => by
  rcases List.mem_cons.mp hp with rfl | hp
  · exact N _ (.head _)
  · rcases List.mem_cons.mp hp with rfl | hp
    · exact N _ (.tail _ hm)
    · exact N p (.tail _ (off_mem.mp hp).1)
theorem Mu.put_both {us us' : Array Value} {nu nu' : Nat} {vs vs' : List Value} {nf nf' : Nat} {left' : List Int} {q' : Nat} (O : A.Ok w) (N : News h₀ L h st) (hA : (A.ask, listOf us nu) ∈ st) (hF : (A.fnr, listOf vs.toArray nf) ∈ st) (M : Mu w A σ left q st)
    (hs : us'.size ≤ q') (hI : IntsAre vs' left') : Mu w A σ left' q' ((A.ask, listOf us' nu') :: (A.fnr, listOf vs'.toArray nf') :: off (off st A.ask) A.fnr) := by
  obtain ⟨n1, n2, n3, n4, n5, n6, n7, n8, n9, n10⟩ := mut_ne O
  have st' : ∀ p ∈ st, p.1 ≠ A.ask → p.1 ≠ A.fnr → p ∈ (A.ask, listOf us' nu') :: (A.fnr, listOf vs'.toArray nf') :: off (off st A.ask) A.fnr := fun p hp h1 h2 => .tail _ (.tail _ (off_mem.mpr ⟨off_mem.mpr ⟨hp, h1⟩, h2⟩))
  have up : ∀ p ∈ st, p.2.cls = .type "tuple" → p ∈ (A.ask, listOf us' nu') :: (A.fnr, listOf vs'.toArray nf') :: off (off st A.ask) A.fnr := fun p hp hc => st' p hp (tup_ne N hA list_nt p hp hc) (tup_ne N hF list_nt p hp hc)
  obtain ⟨⟨oN, vI, vJ, vS, a1, a2, a3, a4, a5⟩, bb, -, -⟩ := M
  refine ⟨⟨oN, vI, vJ, vS, st' _ a1 n3 n4, a2, a3.mono up, a4.mono up, a5.mono up⟩, fun c => ?_, ⟨vs', nf', .tail _ (.head _), hI⟩, ⟨us', nu', .head _, hs⟩⟩
  obtain ⟨z0, z1, z2, z3, n, e0, e1, e2, e3, e4⟩ := bb c
  exact ⟨z0, z1, z2, z3, n, st' _ e0 (by cases c <;> assumption) (by cases c <;> assumption), e1.mono up, e2.mono up, e3.mono up, e4.mono up⟩
theorem keep_both {us : Array Value} {nu : Nat} {vs : List Value} {nf : Nat} {o o' : Obj} (N : News h₀ L h st) (hA : (A.ask, listOf us nu) ∈ st) (hF : (A.fnr, listOf vs.toArray nf) ∈ st) : Keep A st ((A.ask, o) :: (A.fnr, o') :: off (off st A.ask) A.fnr) :=
  ⟨fun p hp hn => .tail _ (.tail _ (off_mem.mpr ⟨off_mem.mpr ⟨hp, fun e => hn (e ▸ ask_mut A)⟩, fun e => hn (e ▸ fnr_mut A)⟩)), fun p hp hc => .tail _ (.tail _ (off_mem.mpr ⟨off_mem.mpr ⟨hp, tup_ne N hA list_nt p hp hc⟩, tup_ne N hF list_nt p hp hc⟩))⟩
end
end
section
inductive RzF (base G : Heap) (l : List Env) (e di : Addr) (fl : Value) (news : Led) (h : Heap) : Prop | mk (B : Heap) (hB : base.StaysIn B) (hG : ∀ b o, G.get? b = some o → b ∉ l.filterMap (·.frame) → B.get? b = some o) (hn : ∀ q ∈ news, B.get? q.1 = some q.2 ∧ G.get? q.1 = none ∧ base.get? q.1 = none) (x : FlyD B l e di fl h)
theorem noteFrame_same {x : Value} {a b : Env} (h : a.frame = b.frame) : noteFrame x a = noteFrame x b := by unfold noteFrame PySem.frameOf; rw [h]
section
variable {M : Model} {A : Around} {E : Value → Shared → Prop} {s : Shared} {base : Heap} {env : Env} {outer l : List Env} {L e di : Addr} {fl : Value} {Q : Unit → Shared → Prop}
theorem noteF (hfr : A.frames = some (env :: outer)) (hf : env.frame = some L) (x : FlyD base (env :: outer) e di fl s.heap)
    (h : ∀ fl' h', UpD base (env :: outer) e di fl' s.heap h' → Q () { s with heap := h' }) : wpAny M A (noteFrame (.ref e) env) Q E s := by
  obtain ⟨hkb, hen, hl, vs, T, oT, ts, he, h1, hnT, hTe, hT, hdT, h3⟩ := id x
  unfold noteFrame
  simp only [hf]
  refine wpAny_bind (wpAny_field he rfl h1 ?_)
  rw [if_pos (show (Value.ref T != Value.none) = true from by simp)]
  refine wpAny_bind (wpAny_field hT hdT h3 ?_)
  by_cases hq : (fl == rawInt L) = true
  · rw [if_pos hq]
    exact wpAny_pure (h fl s.heap ⟨hkb, hl, x.tr, fun b o hb _ => ⟨o.slots, hb⟩⟩)
  · rw [if_neg hq]
    refine wpAny_bind (wpAny_setField hT hdT (Array.getElem?_eq_some_iff.mp h3).1 ?_)
    have other : ∀ b, b ≠ T → (s.heap.update T (Obj.mapFields (·.setIfInBounds 3 Value.none))).get? b = s.heap.get? b := fun b hb => Heap.get?_update_other _ _ (Ne.symm hb)
    have off : ∀ b o, s.heap.get? b = some o → (∀ vs, o.data ≠ .fields vs) → b ≠ T := fun b o hb hnf q => by
      rw [q, hT] at hb; cases hb; exact hnf ts hdT
    exact entryD hfr (hl.of_keeps fun b o hb hnf => ⟨o, (other b (off b o hb hnf)).trans hb, rfl⟩) hf ((other e (Ne.symm hTe)).trans he)
      (fun b o hbo => (other b fun q => by rw [q, hnT] at hbo; cases hbo).trans (hkb b o hbo)) hen (Array.getElem?_eq_some_iff.mp h1).1
      fun h' y => h _ h' ⟨y.stays, y.frames, y.tr, fun b o hb hnf => y.slots b o ((other b (off b o hb hnf)).trans hb) hnf⟩
theorem setF (fr : Option Addr) (x : FlyD base l e di fl s.heap) (h : ∀ fl' h', UpD base l e di fl' s.heap h' → Q () { s with heap := h' }) : wpAny M A (setFlight (.ref e) fr) Q E s := by
  obtain ⟨hkb, hen, hl, vs, T, oT, ts, he, h1, hnT, hTe, hT, hdT, h3⟩ := x
  have other : ∀ b, b ≠ T → (s.heap.update T (Obj.mapFields (·.setIfInBounds 3 (fr.elim Value.none fun f => rawInt f)))).get? b = s.heap.get? b := fun b hb => Heap.get?_update_other _ _ (Ne.symm hb)
  have off : ∀ b o, s.heap.get? b = some o → (∀ vs, o.data ≠ .fields vs) → b ≠ T := fun b o hb hnf q => by
    rw [q, hT] at hb; cases hb; exact hnf ts hdT
  unfold setFlight
  refine wpAny_bind (wpAny_field he rfl h1 ?_)
  rw [if_pos (show (Value.ref T != Value.none) = true from by simp)]
  refine wpAny_setField hT hdT (Array.getElem?_eq_some_iff.mp h3).1 (h (fr.elim Value.none fun f => rawInt f) _ ⟨fun b o hbo => (other b fun q => by rw [q, hnT] at hbo; cases hbo).trans (hkb b o hbo),
    hl.of_keeps fun b o hb hnf => ⟨o, (other b (off b o hb hnf)).trans hb, rfl⟩, ?_, fun b o hb hnf => ⟨o.slots, (other b (off b o hb hnf)).trans hb⟩⟩)
  exact ⟨vs, T, _, _, (other e (Ne.symm hTe)).trans he, h1, hnT, hTe, Heap.get?_update_self _ hT (Obj.isFreed_of_fields (Obj.data_mapFields hdT _)), Obj.data_mapFields hdT _, by simp [(Array.getElem?_eq_some_iff.mp h3).1]⟩
theorem passF {α : Type} {what : String} {cenv : Env} {Q : α → Shared → Prop} (x : FlyD base l e di fl s.heap) (h : ∀ fl' h', UpD base l e di fl' s.heap h' → E (.ref e) { s with heap := h' }) :
    wpAny M A (PySem.passOn what (.ref e) cenv : Sem α) Q E s := by
  obtain ⟨hkb, hen, hl, vs, T, oT, ts, he, h1, hnT, hTe, hT, hdT, h3⟩ := id x
  unfold PySem.passOn
  refine wpAny_bind (wpAny_field he rfl h1 ?_)
  rw [if_neg (show ¬ ((Value.ref T == Value.none) = true) from by simp)]
  refine wpAny_bind (setF cenv.frame x fun fl' h' y => wpAny_throw (h fl' h' y))
theorem leaveF {M : Model} {A : Around} {E : Value → Shared → Prop} {s' : Shared} {base g g₂ : Heap} {m : Str → Option Value} {news : Led} (hfr : A.frames = some (env :: outer)) (hf : env.frame = some L) (F : Fr g L g₂ m) (R : RzF base g₂ (env :: outer) e di fl news s'.heap) (u₀ : g₂.UpToSlots s'.heap)
    (hQ : ∀ h', Rz base g outer e di news h' → g.UpToSlots h' → Q () { s' with heap := h' }) : wpAny M A (leaving env (.ref e)) Q E s' := by
  obtain ⟨B, hB, hBG, hl, x⟩ := R
  unfold leaving
  refine wpAny_bind (noteF hfr hf x fun fl' h' y => landD (y.fly x.new) fun h'' z => hQ h'' ⟨B, hB, fun b o q nm => hBG b o (F.keep b o q) (fun hm => by
    rcases frame_mem hf hm with rfl | hm
    · rw [kts_self F] at q; cases q
    · exact nm hm), fun q hq => ⟨(hl q hq).1, kts_none F.keep (hl q hq).2.1, (hl q hq).2.2⟩, ⟨z.stays, x.new, z.frames.2.2, z.tr⟩⟩ ((Heap.UpToSlots.of_keeps F.keep).trans (u₀.trans (y.slots.trans z.slots))))
end
end
section
open LCg
theorem funFrames_part {h h' B B' : Heap} (hB : ∀ b, B.get? b = none → B'.get? b = none) (hk : ∀ b o, B.get? b = none → h.get? b = some o → h'.get? b = some o) : ∀ {l : List Env}, h.FunFrames B l → h'.FunFrames B' l
  | [], _ => trivial
  | _ :: _, ⟨hk', ⟨L, o, hf, hn, ho, hd⟩, hr⟩ => ⟨hk', ⟨L, o, hf, hB _ hn, hk _ _ hn ho, hd⟩, funFrames_part hB hk hr⟩
noncomputable def Way (base h₀ : Heap) (L : Addr) (m : Str → Option Value) (l : List Env) (s : Shared) (E E' : Value → Shared → Prop) (C : Addr) (oC : Obj) : Prop :=
  ∀ e di n h' tk' G, Fr h₀ L G m → Rz base G l e di n h' → G.UpToSlots h' → (C, oC) ∈ n →
    (∀ h'' fl n', (∀ p ∈ n, p.1 ≠ C → p ∈ n') → RzF base G l e di fl n' h'' → G.UpToSlots h'' → E (.ref e) { s with heap := h'', toks := tk' }) → E' (.ref e) { s with heap := h', toks := tk' }
inductive Src1 (prog : Program) (w : World) (A : Around) (base h₀ : Heap) (L : Addr) (m : Str → Option Value) (l : List Env) (env : Env) (elt : Expr) (x : Str) (scope : Scope) (cl : List (Str × Addr)) (E : Value → Shared → Prop) (Fin : Shared → List Value → List (Addr × Obj) → Prop) (xv : Value) (s₁ : Shared) : Prop
  | mk (ax : Nat) (u : Value) (k : Nat) (news : Led) (e : xv = .ref ax) (hh : A.handled = none) (F : Fr h₀ L s₁.heap m) (N : News h₀ L s₁.heap news) (hm : (ax, ({ cls := .type "list", data := .seq #[u] k } : Obj)) ∈ news)
    (turn : ∀ I oI C oC D m₂ h tk (E' : Value → Shared → Prop), oI.cls = .type "list_iterator" → NsObj oC m₂ → m₂ x = some u → Fr h₀ L h m → News h₀ L h ((I, oI) :: (C, oC) :: (D, lst []) :: news) → Off3 I C D news → ((@Ne Nat I C) ∧ (@Ne Nat I D) ∧ (@Ne Nat C D)) →
      Way base h₀ L m l s₁ E E' C oC →
      wpAny (model prog w) A (eval elt (compEnvC scope cl C env)) (CompEnd h₀ L m { s₁ with heap := h, toks := tk } I oI C oC D (lst []) (fun n => (ax, ({ cls := .type "list", data := .seq #[u] k } : Obj)) ∈ n) (fun y n => Fin s₁ [y] n)) E' { s₁ with heap := h, toks := tk }) : Src1 prog w A base h₀ L m l env elt x scope cl E Fin xv s₁
inductive LoopB (h₀ : Heap) (L : Addr) (m : Str → Option Value) (s₁ : Shared) (y : Str) (Q : Flow → Shared → Prop) (I C D ax : Nat) (u : Value) (k : Nat) (s' : Shared) : Prop
  | mk (h : Heap) (tk : Nat) (m' : Str → Option Value) (v : Value) (n' : Led) (e : s' = { s₁ with heap := h, toks := tk }) (F : Fr h₀ L h m) (hn : h.Ns C m') (N : News h₀ L h ((D, lst [v]) :: n')) (off : Off3 I C D n') (hit : h.IsListIter I ax 1) (hm : (ax, ({ cls := .type "list", data := .seq #[u] k } : Obj)) ∈ n') (fin : FinA h₀ L m s₁ y Q [v] n')
section
variable {prog : Program} {w : World} {A : Around} {E : Value → Shared → Prop} {s : Shared} {base h₀ : Heap} {L : Addr} {m : Str → Option Value} {env fenv : Env} {outer : List Env}
theorem Assign_ListComp_1 {elt iter : Expr} {x y : Str} {px py : Pos} {scope : Scope} {cl : List (Str × Addr)} {pos spos : Pos} {Q : Flow → Shared → Prop} (F₀ : Fr h₀ L s.heap m) (hLe : env.locals = L)
    (hfr : A.frames = some (fenv :: outer)) (hf : fenv.frame = some L) (hfe : env.frame = fenv.frame)
    (hsw : swapsWith (.ListComp elt [⟨.Name x px, iter, [], 0⟩] scope pos) (some (.Name y py)) spos.line env = pure true)
    (hclos : closureFor scope env = pure cl) (hcell : ∀ z ∈ scope.names, z.2 ≠ .cell) (hkind : scope.kind = .function)
    (hnames : ∀ z ∈ scope.names, z.2 = .local → scope.names.lookup z.1 = some .local) (hx : scope.names.lookup x = some .local)
    (hy : env.kindOf y = some .local) (hp : (env.scope.kind == .class || (env.scope.kind == .module && env.locals != env.globals)) = false)
    (h : wpAny (model prog w) A (eval iter env) (Src1 prog w A base h₀ L m (fenv :: outer) env elt x scope cl E (fun s₂ => FinA h₀ L m s₂ y Q)) E s)
    (hs : ∀ x, foldedSetIterable iter env x = pure x := by intro _; rfl) :
    wpAny (model prog w) A (exec (.Assign [.Name y py] (.ListComp elt [⟨.Name x px, iter, [], 0⟩] scope pos) spos) env) Q E s := by
  subst hLe
  rw [exec_Assign_Name_used _ _ _ _ hsw]
  refine wpAny_bind (wpAny_standAt (wpAny_bind ?_))
  show wpAny _ A (do let _ ← comprehension (.ListComp elt [⟨.Name x px, iter, [], 0⟩] scope pos) scope env _ (newList []) false (eval iter env) (some (assign (.Name y py) env))) _ _ s
  refine wpAny_bind (wpAny_mono (wpAny_comprehension_free (use := some (assign (.Name y py) env)) (Q := fun _ s' => Q .next s') rfl hs hclos hkind hnames
    (wpAny_mono h (fun xv s₁ h₁ => ?_) fun _ _ e => e)) (fun _ s' hq => wpAny_pure (wpAny_pure hq)) fun _ _ e => e)
  refine let_G ?_; intro G9
  obtain ⟨ax, u, k, news, exv, hh, F, N, hm, turn⟩ := h₁
  subst exv
  have hax := N _ hm
  have hl : s₁.heap.IsList ax #[u] := ⟨_, hax.1, rfl, k, rfl⟩
  have axlt : ax < s₁.heap.objs.size := Heap.lt_size hax.1
  refine wpAny_pyIter_list hl ?_
  refine wpAny_newObj_type (wpAny_newFunctionEnv hcell (by intro z hz; simp at hz) (fun h₁ hns₁ hsb₁ => ?_) hkind)
  dsimp only at hns₁ hsb₁ ⊢
  generalize hI : s₁.heap.objs.size = I at *
  have hsz1 : (s₁.heap.push { cls := .type "list_iterator", dict := none, data := .fields #[.ref ax, .int 0 0] }).objs.size = I + 1 := by rw [Heap.size_push, hI]
  generalize hH1 : s₁.heap.push { cls := .type "list_iterator", dict := none, data := .fields #[.ref ax, .int 0 0] } = H1 at *
  have hsz2 : (H1.push { cls := .type "list", dict := none, data := .seq ([] : List Value).toArray }).objs.size = I + 2 := by rw [Heap.size_push, hsz1]
  generalize hH2 : H1.push { cls := .type "list", dict := none, data := .seq ([] : List Value).toArray } = H2 at *
  have old : ∀ b o, b < I → s₁.heap.get? b = some o → h₁.get? b = some o := fun b o hb e => hsb₁.extBut b o (by rw [hsz2]; exact Nat.ne_of_lt (Nat.lt_add_right 2 hb)) (Heap.get?_push_of_some _ (hH2 ▸ Heap.get?_push_of_some _ (hH1 ▸ Heap.get?_push_of_some _ e)))
  have atI : h₁.get? I = some { cls := .type "list_iterator", dict := none, data := .fields #[.ref ax, .int 0 0] } := hsb₁.extBut _ _ (by rw [hsz2]; exact Nat.ne_of_lt (Nat.lt_add_of_pos_right (by decide))) (Heap.get?_push_of_some _ (hH2 ▸ Heap.get?_push_of_some _ (hH1 ▸ hI ▸ Heap.get?_push_size _ rfl)))
  have atD : h₁.get? H1.objs.size = some (lst []) := hsb₁.extBut _ _ (by rw [hsz2, hsz1]; exact Nat.ne_of_lt (Nat.lt_succ_self _)) (Heap.get?_push_of_some _ (hH2 ▸ Heap.get?_push_size _ rfl))
  generalize H1.objs.size = D at *
  generalize H2.objs.size = C at *
  clear hsb₁ hH2 hH1
  have fresh₀ : ∀ a, I ≤ a → h₀.get? a = none := fun a ha => by
    cases e : h₀.get? a with
    | none => rfl
    | some o' => exact absurd (Heap.lt_size (F.keep a o' e)) (by rw [hI]; exact Nat.not_lt.mpr ha)
  have hLlt : env.locals < I := by rw [← hI]; exact F.ns.lt
  have newsLt : ∀ p ∈ news, p.1 < I := fun p hp => by rw [← hI]; exact Heap.lt_size (N p hp).1
  have hI₀ := fresh₀ I (Nat.le_refl _)
  have hD₀ := fresh₀ D (by rw [hsz1]; exact Nat.le_succ _)
  have hC₀ := fresh₀ C (by rw [hsz2]; exact Nat.le_add_right _ _)
  have hIL : env.locals ≠ I := Nat.ne_of_lt hLlt
  have hDL : D ≠ env.locals := by rw [hsz1]; exact Nat.ne_of_gt (Nat.lt_succ_of_lt hLlt)
  have hCL : C ≠ env.locals := by rw [hsz2]; exact Nat.ne_of_gt (Nat.lt_add_right 2 hLlt)
  have hIC : I ≠ C := by rw [hsz2]; exact Nat.ne_of_lt (Nat.lt_add_of_pos_right (by decide))
  have hID : I ≠ D := by rw [hsz1]; exact Nat.ne_of_lt (Nat.lt_succ_self _)
  have hCD : C ≠ D := by rw [hsz1, hsz2]; exact Nat.ne_of_gt (Nat.lt_succ_self _)
  have offN : ∀ p ∈ news, p.1 ≠ I ∧ p.1 ≠ C ∧ p.1 ≠ D := fun p hp => by
    have := newsLt p hp
    exact ⟨Nat.ne_of_lt this, by rw [hsz2]; exact Nat.ne_of_lt (Nat.lt_add_right 2 this), by rw [hsz1]; exact Nat.ne_of_lt (Nat.lt_succ_of_lt this)⟩
  have F₁ : Fr h₀ env.locals h₁ m := F.keeps fun b o e => old b o (by rw [← hI]; exact Heap.lt_size e) e
  have N₁ : News h₀ env.locals h₁ news := fun p hp => ⟨old _ _ (newsLt p hp) (N p hp).1, (N p hp).2⟩
  have loop : ∀ s₃ : Shared, s₃ = { s₁ with heap := h₁, toks := s₁.toks + ([] : List (Str × Value)).length } →
      codeAny (model prog w) A (.compLoop (.ListComp elt [⟨.Name x px, iter, [], 0⟩] scope pos) 0 (.ref I) (.ref D) (compEnvC scope cl C env))
        (compPost (model prog w) A E (some (assign (.Name y py) env)) (fun _ s' => Q .next s') (.ref D) C) s₃ := by
    rintro s₃ rfl
    refine codeAny_compLoop_tests (fun n s' => (n = 1 ∧ s' = { s₁ with heap := h₁, toks := s₁.toks + ([] : List (Str × Value)).length }) ∨
      (n = 0 ∧ LoopB h₀ env.locals m s₁ y Q I C D ax u k s')) ?_ 1 (.inl ⟨rfl, rfl⟩)
    intro n s' hor
    refine hor.elim (fun ho => ?_) (fun ho => ?_)
    · obtain ⟨rfl, rfl⟩ := ho
      have hit₁ : h₁.IsListIter I ax 0 := ⟨_, atI, rfl, rfl⟩
      have hl₁ : h₁.IsList ax #[u] := ⟨_, (N₁ _ hm).1, rfl, k, rfl⟩
      refine wpAny_pyNext_list_item hit₁ hl₁ (x := u) (by simp) fun h₂ hit₂ hs₂ => ?_
      refine wpAny_assign_Name (wpAny_storeName_local (lookup_relabel_local hx) (hns₁.at' fun o e => hs₂.extBut _ o (Ne.symm hIC) e) (fun h₃ hn₃ hs₃ => ?_) (by simp [compEnvC, relabel, hkind]))
      refine wpAny_tests_nil ?_
      simp only [if_true]
      refine let_G ?_; intro G8
      obtain ⟨oI, heI, hcI, hdI⟩ := hit₂
      obtain ⟨oC, heC, hoC⟩ := ns_obj hn₃
      have up : ∀ b o, b ≠ I → b ≠ C → h₁.get? b = some o → h₃.get? b = some o := fun b o h1 h2 e => hs₃.extBut b o h2 (hs₂.extBut b o h1 e)
      have F₃ : Fr h₀ env.locals h₃ m := (F₁.change hs₂ (Ne.symm hIL) hI₀).change hs₃ hCL hC₀
      have N₃ : News h₀ env.locals h₃ ((I, oI) :: (C, oC) :: (D, lst []) :: news) := fun p hp => by
        rcases List.mem_cons.mp hp with rfl | hp
        · exact ⟨hs₃.extBut _ _ hIC heI, Ne.symm hIL, hI₀⟩
        rcases List.mem_cons.mp hp with rfl | hp
        · exact ⟨heC, hCL, hC₀⟩
        rcases List.mem_cons.mp hp with rfl | hp
        · exact ⟨up _ _ (Ne.symm hID) (Ne.symm hCD) atD, hDL, hD₀⟩
        · exact ⟨up _ _ (offN p hp).1 (offN p hp).2.1 (N₁ p hp).1, (N₁ p hp).2⟩
      refine wpAny_mono (turn I oI C oC D _ h₃ _ (notedBy (model prog w) A (compEnvC scope cl C env) fun e s' => compPost (model prog w) A E (some (assign (.Name y py) env)) (fun _ s' => Q .next s') (.ref D) C (.error e) s')
        hcI hoC (by simp) F₃ N₃ (Off3.of offN) ⟨hIC, hID, hCD⟩ ?_) (fun v s₄ h₄ => ?_) fun _ _ e => e
      · intro e di n h' tk' G FG R u₀ hmC hE
        refine let_G ?_; intro G7
        obtain ⟨B, hB, hBG, hlB, x⟩ := R
        show wpAny (model prog w) A (noteFrame (.ref e) (compEnvC scope cl C env)) _ _ _
        rw [noteFrame_same (a := compEnvC scope cl C env) (b := fenv) hfe]
        refine noteF hfr hf x fun fl' h2 z => ?_
        have x2 := z.fly x.new
        have BC := (hlB _ hmC).1
        refine ⟨_, hoC.ns (x2.stays _ _ BC), fun h3 hs3 cenv _ => ?_⟩
        have hide : ∀ b o, (B.hide C).get? b = some o → b ≠ C ∧ B.get? b = some o := fun b o q => ⟨(fun e => by rw [e, Heap.hide_self] at q; cases q), Heap.of_hide q⟩
        have hideN : ∀ b, B.get? b = none → (B.hide C).get? b = none := fun b q => by
          cases e : (B.hide C).get? b with
          | none => rfl
          | some o => rw [(hide b o e).2] at q; cases q
        have neC : ∀ b, B.get? b = none → b ≠ C := fun b q e => by rw [e, BC] at q; cases q
        have x3 : FlyD (B.hide C) (fenv :: outer) e di fl' h3 := by
          obtain ⟨hkb, hen, hfl, vs, T, oT, ts, he, h1, hnT, hTe, hT, hdT, h3'⟩ := x2
          exact ⟨fun b o q => hs3.extBut b o (hide b o q).1 (hkb b o (hide b o q).2), hideN _ hen, funFrames_part hideN (fun b o q e => hs3.extBut b o (neC b q) e) hfl,
            vs, T, oT, ts, hs3.extBut _ _ (neC _ hen) he, h1, hideN _ hnT, hTe, hs3.extBut _ _ (neC _ hnT) hT, hdT, h3'⟩
        have G3 : G.UpToSlots h3 := fun b o q hd => by
          obtain ⟨sl, e⟩ := (u₀.trans z.slots) b o q hd
          exact ⟨sl, hs3.extBut _ _ (fun c => by rw [c, (hlB _ hmC).2.1] at q; cases q) e⟩
        have get : ∀ b o, b ≠ C → B.get? b = some o → (B.hide C).get? b = some o := fun b o hne q => (Heap.hide_ne B hne).trans q
        refine passF x3 fun fl'' h4 z4 => hE h4 fl'' (n.filter fun p => decide (p.1 ≠ C)) (fun p hp hne => List.mem_filter.mpr ⟨hp, decide_eq_true hne⟩) ⟨B.hide C, fun b o q => get b o (fun c => by rw [c, (hlB _ hmC).2.2] at q; cases q) (hB b o q),
          fun b o q nm => get b o (fun c => by rw [c, (hlB _ hmC).2.1] at q; cases q) (hBG b o q nm), fun q hq => ?_, z4.fly x3.new⟩ (G3.trans z4.slots)
        have hq' := List.mem_filter.mp hq
        exact ⟨get _ _ (of_decide_eq_true hq'.2) (hlB q hq'.1).1, (hlB q hq'.1).2⟩
      · refine let_G ?_; intro G5
        obtain ⟨h₄, tk₄, n₄, e₄, F₄, N₄, off₄, hm₄, fin₄⟩ := h₄
        subst e₄
        have zI := (N₄ (I, oI) (.head _)).1
        have zC := (N₄ (C, oC) (.tail _ (.head _))).1
        have zD := (N₄ (D, lst []) (.tail _ (.tail _ (.head _)))).1
        refine append_at (hsz := by decide) zD fun h₅ hs₅ hD₅ => ⟨0, by decide, .inr ⟨rfl, h₅, tk₄, _, v, n₄, rfl, F₄.change hs₅ hDL hD₀, (hoC.ns zC).sameBut hs₅ hCD, fun p hp => ?_, off₄, ⟨oI, hs₅.extBut _ _ hID zI, hcI, hdI⟩, hm₄, fin₄⟩⟩
        rcases List.mem_cons.mp hp with rfl | hp
        · exact ⟨hD₅.trans (congrArg some (lst_snoc [] v)), hDL, hD₀⟩
        · have z := N₄ p (.tail _ (.tail _ (.tail _ hp)))
          exact ⟨hs₅.extBut _ _ (off₄.mem p hp).2.2 z.1, z.2⟩
    · refine let_G ?_; intro G6
      obtain ⟨e0, h, tk, m', v, n', es', F', hn', N', off', hit, hm', fin⟩ := ho
      subst e0 es'
      have hl₁ : h.IsList ax #[u] := ⟨_, (N' _ (.tail _ hm')).1, rfl, k, rfl⟩
      refine wpAny_pyNext_list_end hh hit hl₁ (by simp) fun h₂ he₂ => ?_
      show wpAny _ A (assign (.Name y py) env (.ref D)) _ _ _
      have off3 := off'.mem
      have F₂ : Fr h₀ env.locals h₂ m := fr_but F' (fun b o hb e => he₂ b o (by simpa using hb) e) hIL hI₀
      have N₂ : News h₀ env.locals h₂ ((D, lst [v]) :: n') := news_but N' (fun b o hb e => he₂ b o (by simpa using hb) e) fun p hp => by
        rcases List.mem_cons.mp hp with rfl | hp
        · exact Ne.symm hID
        · exact (off3 p hp).1
      have hL₀ : h₀.get? env.locals = none := Heap.get?_none_of_le F'.above
      refine wpAny_assign_Name (wpAny_storeName_local hy F₂.ns (fun h₃ hn₃ hs₃ => ?_) hp)
      have F₃ : Fr h₀ env.locals h₃ (fun z => if z = y then some (.ref D) else m z) := ⟨hn₃, fun b o e => hs₃.extBut b o (fun q => by rw [q, hL₀] at e; cases e) (F₂.keep b o e), F₂.above⟩
      refine ⟨m', (hn'.at' fun o e => he₂ _ o (Ne.symm hIC) e).sameBut hs₃ hCL, fun h'' hs'' => fin D h'' _ (F₃.change hs'' hCL hC₀) (fun p hp => ?_) off'.one⟩
      have z : h₃.get? p.1 = some p.2 := hs₃.extBut _ _ (N₂ p hp).2.1 (N₂ p hp).1
      refine ⟨hs''.extBut _ _ ?_ z, (N₂ p hp).2⟩
      rcases List.mem_cons.mp hp with rfl | hp
      · exact Ne.symm hCD
      · exact (off3 p hp).2.1
  exact codeAny_compStart_list (loop _ rfl) (wpAny_pyIter_listiter ⟨_, atI, rfl, rfl⟩ (loop _ rfl))
end
end
section
inductive Pl | n (p : Nm) | a (b : Ar) (i : Int)
inductive RPl | ok (v : Pl) (l : List Int) | bad (c : Str) (l : List Int)
noncomputable def plI (b : Ar) : Rs → RPl
  | .ok (.num i) l => if 0 ≤ i ∧ i ≤ 3 then .ok (.a b i) l else .bad "BS" l
  | .ok (.txt _) l => .bad "TM" l
  | .bad c l => .bad c l
noncomputable def pl (σ : Sg) : T → List Int → RPl
  | .name p, l => .ok (.n p) l
  | .item b τ, l => plI b (ev σ τ l)
  | _, l => .bad "" l
noncomputable def Pl.isT : Pl → Bool | .n p => p.isT | .a b _ => b.isT
noncomputable def Pl.Ok : Pl → Prop | .n _ => True | .a _ i => 0 ≤ i ∧ i ≤ 3
noncomputable def Sg.at (σ : Sg) : Pl → V | .n p => σ.nm p | .a b i => σ.ar b i.toNat
noncomputable def Sg.put (σ : Sg) (y : V) : Pl → Sg | .n p => σ.setN p y | .a b i => σ.setA b i.toNat y
noncomputable def T.Tgt : T → Prop
  | .name _ => True
  | .item _ τ => τ.Ok ∧ τ.numb
  | _ => False
noncomputable def T.isT : T → Bool | .name p => p.isT | .item b _ => b.isT | _ => false
inductive PrA (Ms : List Nat) (st : Led) (b : Ar) (i : Int) (v : Value) : Prop | mk (t : Nat) (k1 k2 : Tok) (l nl : Nat) (z : Value) (e : v = .ref t) (a : (t, tupOf [.str "item" k1, .str b.word k2, .ref l] 0) ∈ st) (c : (l, listOf #[z] nl) ∈ st) (d : l ∉ Ms) (p : PV st z (.num i))
noncomputable def Pr (Ms : List Nat) (st : Led) : Pl → Value → Prop
  | .n p, v => Tr3 st "name" (.str p.word) v
  | .a b i, v => PrA Ms st b i v
inductive PT (w : World) (A : Ad) (σ : Sg) (q : Nat) (st : Led) (r : RPl) (v : Value) (n : Led) : Prop | mk (p : Pl) (l' : List Int) (e : r = .ok p l') (L : Left w A σ l' q st n) (k : Pr A.muts n p v)
theorem Pr.up {Ms : List Nat} {st n : Led} (K : KeepM Ms st n) {p : Pl} {v : Value} (h : Pr Ms st p v) : Pr Ms n p v := by
  cases p with
  | n => obtain ⟨t, k1, k2, e, a⟩ := h; exact ⟨t, k1, k2, e, K.2 _ a rfl⟩
  | a => obtain ⟨t, k1, k2, l, nl, z, e, a, b, c, d⟩ := h; exact ⟨t, k1, k2, l, nl, z, e, K.2 _ a rfl, K.1 _ b c, c, d.mono K.2⟩
theorem Pr.ref {Ms : List Nat} {st : Led} {p : Pl} {v : Value} (h : Pr Ms st p v) : ∃ t, v = .ref t := by
  cases p with
  | n => obtain ⟨t, _, _, e, _⟩ := h; exact ⟨t, e⟩
  | a => obtain ⟨t, _, _, _, _, _, e, _⟩ := h; exact ⟨t, e⟩
theorem Sg.at_ok {σ : Sg} (h : σ.Ok) : ∀ {p : Pl}, p.Ok → okV p.isT (σ.at p)
  | .n p, _ => h.1 p
  | .a b i, hi => h.2 b i.toNat (by have : 0 ≤ i ∧ i ≤ 3 := hi; omega)
theorem Sg.put_ok {σ : Sg} (h : σ.Ok) {y : V} : ∀ {p : Pl}, p.Ok → okV p.isT y → (σ.put y p).Ok
  | .n p, _, hy => ⟨fun r => by
      have h1 := h.1 r
      cases p <;> cases r <;> first | exact hy | exact h1, h.2⟩
  | .a b i, hi, hy => ⟨h.1, fun c j hj => by
      have h1 := h.2 c j hj
      cases b <;> cases c
      · show okV _ (if j = i.toNat then y else σ.ar .A j)
        split
        · exact hy
        · exact h1
      · exact h1
      · exact h1
      · show okV _ (if j = i.toNat then y else σ.ar .W j)
        split
        · exact hy
        · exact h1⟩
theorem plI_ok {b : Ar} {r : Rs} {p : Pl} {l : List Int} (h : plI b r = .ok p l) : p.Ok ∧ p.isT = b.isT ∧ r.left = l := by
  cases r with
  | bad c l' => cases h
  | ok y l' =>
    cases y with
    | txt s => cases h
    | num i =>
      have h : (if 0 ≤ i ∧ i ≤ 3 then RPl.ok (.a b i) l' else .bad "BS" l') = .ok p l := h
      by_cases hi : 0 ≤ i ∧ i ≤ 3
      · rw [if_pos hi] at h; cases h; exact ⟨hi, rfl, rfl⟩
      · rw [if_neg hi] at h; cases h
theorem pl_ok {σ : Sg} {τ : T} {l l' : List Int} {p : Pl} (hl : LOk l) (h : pl σ τ l = .ok p l') : p.Ok ∧ p.isT = τ.isT ∧ LOk l' := by
  cases τ with
  | name q => cases h; exact ⟨trivial, rfl, hl⟩
  | item b τ =>
    obtain ⟨h1, h2, h3⟩ := plI_ok (r := ev σ τ l) h
    exact ⟨h1, h2, h3 ▸ ev_left hl⟩
  | _ => cases h
end
section
open LCg
theorem Tr.up {Ms : List Nat} {st n : Led} (h : ∀ p ∈ st, p ∈ n) {τ : T} {v : Value} (x : Tr Ms st τ v) : Tr Ms n τ v := Tr.keep (Ns := Ms) ⟨fun p hp _ => h p hp, fun p hp _ => h p hp⟩ (fun _ h => h) x
theorem new_mut {w : World} {A : Ad} {σ : Sg} {left : List Int} {q : Nat} {st : Led} {D : Nat} (M : Mu w A σ left q st) (h : ∀ p ∈ st, p.1 ≠ D) : D ∉ A.muts := by
  obtain ⟨⟨oN, vI, vJ, vS, a1, -⟩, b, ⟨vs, n1, c1, -⟩, ⟨us, n2, d1, -⟩⟩ := M
  obtain ⟨_, _, _, _, _, e0, -⟩ := b .A
  obtain ⟨_, _, _, _, _, e1, -⟩ := b .W
  simp only [Ad.muts, List.mem_cons, List.not_mem_nil, or_false, not_or]
  exact ⟨(h _ a1).symm, (h _ e0).symm, (h _ e1).symm, (h _ d1).symm, (h _ c1).symm⟩
noncomputable def IsTup (o : Obj) : Prop := o.cls = .type "tuple" ∧ ∃ a k, o.data = .seq a k
theorem VR.up {st st' : Led} {v : Value} (h : ∀ p ∈ st, IsTup p.2 → p ∈ st') : ∀ {x : V}, VR st v x → VR st' v x
  | .num _, ⟨t, k1, k2, e, m⟩ => ⟨t, k1, k2, e, h _ m ⟨rfl, _, _, rfl⟩⟩
  | .txt _, x => x
theorem PV.up {st st' : Led} {v : Value} (h : ∀ p ∈ st, IsTup p.2 → p ∈ st') : ∀ {x : V}, PV st v x → PV st' v x
  | .num _, .inl x => .inl x
  | .num _, .inr x => .inr (VR.up h x)
  | .txt _, x => x
theorem Left.out {w : World} {A : Ad} {σ σ0 : Sg} {left left0 : List Int} {q q0 : Nat} {st n : Led} {a : Nat} (W : Wd A st) (M : Mu w A σ0 left0 q0 st) (hs : ∀ p ∈ st, p.1 ≠ a) (hT : ∀ p ∈ n, IsTup p.2 → p.1 ≠ a) (x : Left w A σ left q st n) :
    Left w A σ left q st (off n a) ∧ ∀ p ∈ n, IsTup p.2 → p ∈ off n a := by
  have hm := new_mut M hs
  have up : ∀ p ∈ n, IsTup p.2 → p ∈ off n a := fun p hp h => off_mem.mpr ⟨hp, hT p hp h⟩
  have mu : ∀ p ∈ n, p.1 ∈ A.muts → p ∈ off n a := fun p hp h => off_mem.mpr ⟨hp, fun e => hm (e ▸ h)⟩
  refine ⟨⟨fun p hp => off_mem.mpr ⟨x.wd p hp, hs p (W p hp)⟩, ?_, ⟨fun p hp hn => off_mem.mpr ⟨x.keep.1 p hp hn, hs p hp⟩, fun p hp hc => off_mem.mpr ⟨x.keep.2 p hp hc, hs p hp⟩⟩⟩, up⟩
  exact x.mu.map mu fun _ _ z => z.up up
theorem ne_tup {g : Nat → Option Obj} {n : Led} (N : ∀ p ∈ n, g p.1 = some p.2) {a : Nat} {o : Obj} (h : (a, o) ∈ n) (ho : ¬ IsTup o) : ∀ p ∈ n, IsTup p.2 → p.1 ≠ a := fun p hp hc e => by
  have h1 := N p hp
  rw [e, N _ h] at h1
  have z : o = p.2 := Option.some.inj h1
  exact ho (z ▸ hc)
theorem off_sub {st : Led} {a : Nat} : ∀ p ∈ off st a, p ∈ st := fun _ h => (off_mem.mp h).1
noncomputable def off3 (n : Led) (I C D : Nat) : Led := off (off (off n I) C) D
theorem off3_mem {st : Led} {I C D : Nat} {p : Addr × Obj} : p ∈ off3 st I C D ↔ p ∈ st ∧ p.1 ≠ I ∧ p.1 ≠ C ∧ p.1 ≠ D := by unfold off3; rw [off_mem, off_mem, off_mem]; exact ⟨fun ⟨⟨⟨a, b⟩, c⟩, d⟩ => ⟨a, b, c, d⟩, fun ⟨a, b, c, d⟩ => ⟨⟨⟨a, b⟩, c⟩, d⟩⟩
theorem Left.part {w : World} {A : Ad} {σ σ0 : Sg} {left left0 : List Int} {q q0 : Nat} {st n : Led} {I C D : Nat} {oI oC : Obj} {its : List Value} {m₂ : Str → Option Value} {g : Nat → Option Obj} (W : Wd A st) (M : Mu w A σ0 left0 q0 st) (N : ∀ p ∈ n, g p.1 = some p.2)
    (ho : Off3 I C D st) (hI : oI.cls = .type "list_iterator") (hC : NsObj oC m₂) (x : Left w A σ left q ((I, oI) :: (C, oC) :: (D, lst its) :: st) n) :
    Left w A σ left q st (off3 n I C D) ∧ (∀ p ∈ n, IsTup p.2 → p ∈ off3 n I C D) ∧ (I, oI) ∈ n ∧ (C, oC) ∈ n ∧ (D, lst its) ∈ n := by
  have o3 := ho.mem
  have a1 := x.keep.1 _ (.head _) (new_mut M fun p hp => (o3 p hp).1)
  have a2 := x.keep.1 _ (.tail _ (.head _)) (new_mut M fun p hp => (o3 p hp).2.1)
  have a3 := x.keep.1 _ (.tail _ (.tail _ (.head _))) (new_mut M fun p hp => (o3 p hp).2.2)
  have t1 := ne_tup N a1 (fun h => by have := h.1; rw [hI] at this; injection this with this; revert this; decide)
  have t2 := ne_tup N a2 (fun h => by obtain ⟨-, a, k, h⟩ := h; obtain ⟨es, ep, h2, -⟩ := hC; rw [h] at h2; cases h2)
  have t3 := ne_tup N a3 (fun h => list_nt h.1)
  obtain ⟨y1, u1⟩ := Left.out W M (fun p hp => (o3 p hp).1) t1 x.drop.drop.drop
  obtain ⟨y2, u2⟩ := Left.out W M (fun p hp => (o3 p hp).2.1) (fun p hp => t2 p (off_sub p hp)) y1
  obtain ⟨y3, u3⟩ := Left.out W M (fun p hp => (o3 p hp).2.2) (fun p hp => t3 p (off_sub p (off_sub p hp))) y2
  exact ⟨y3, fun p hp h => u3 p (u2 p (u1 p hp h) h) h, a1, a2, a3⟩
theorem RzF.sub {base G : Heap} {l : List Env} {e di : Addr} {fl : Value} {n n' : Led} {h : Heap} (hs : ∀ p ∈ n', p ∈ n) (R : RzF base G l e di fl n h) : RzF base G l e di fl n' h := let ⟨B, a, b, c, d⟩ := R; ⟨B, a, b, fun q hq => c q (hs q hq), d⟩
theorem Rz.get {base G : Heap} {l : List Env} {e di : Addr} {n : Led} {h : Heap} (R : Rz base G l e di n h) : ∃ g : Nat → Option Obj, ∀ p ∈ n, g p.1 = some p.2 := let ⟨B, _, _, c, _⟩ := R; ⟨B.get?, fun q hq => (c q hq).1⟩
theorem code_ne {w : World} {g : Nat → Option Obj} {n : Led} {di C : Nat} {c : Str} {told : Value} {k1 k2 k3 : Tok} {oC : Obj} {m : Str → Option Value} {x : Str} {u : Value} (N : ∀ p ∈ n, g p.1 = some p.2) (h1 : (di, codeD w c told k1 k2 k3) ∈ n) (h2 : (C, oC) ∈ n) (hC : NsObj oC m) (hx : m x = some u) (hn : nsFind #[⟨PyData.keyHash w.params "code", .str "code" k1, .str c k2⟩, ⟨PyData.keyHash w.params "told", .str "told" k3, told⟩] x = none) : di ≠ C := fun e => by
  have z1 := N _ h1
  have z2 := N _ h2
  dsimp only at z1 z2
  rw [e, z2] at z1
  cases Option.some.inj z1
  obtain ⟨es, ep, he, -, hf⟩ := hC
  injection he with he
  subst he
  rw [← hf x, hn] at hx
  cases hx
theorem news_part {h₀ h : Heap} {L : Addr} {n : Led} {I C D : Nat} {a b c : Addr × Obj} (N : News h₀ L h n) (ha : a ∈ n) (hb : b ∈ n) (hc : c ∈ n) : News h₀ L h (a :: b :: c :: off3 n I C D) := fun p hp => by
  rcases List.mem_cons.mp hp with rfl | hp
  · exact N _ ha
  rcases List.mem_cons.mp hp with rfl | hp
  · exact N _ hb
  rcases List.mem_cons.mp hp with rfl | hp
  · exact N _ hc
  · exact N _ (off3_mem.mp hp).1
end
section
inductive RO | ok (σ : Sg) (l : List Int) | bad (c : Str) (l : List Int)
inductive PA (w : World) (A : Ad) (q : Nat) (st : Led) (r : RO) (v : Value) (n : Led) : Prop | mk (σ' : Sg) (l' : List Int) (e : r = .ok σ' l') (L : Left w A σ' l' q st n)
noncomputable def swapS (σ : Sg) (τ υ : T) (l : List Int) : RO :=
  if τ.isT ≠ υ.isT then .bad "TM" l else
  match pl σ τ l with
  | .bad c l => .bad c l
  | .ok p l => match pl σ υ l with
    | .bad c l => .bad c l
    | .ok r l => .ok ((σ.put (σ.at r) p).put (σ.at p) r) l
noncomputable def midC (x : List Nat) (b m : Int) : Int → List Nat → List Nat
  | _, [] => []
  | k, c :: r => (if (0 ≤ k + 1 - b ∧ k + 1 - b < x.length) ∧ k + 1 - b < m then x.getD (k + 1 - b).toNat c else c) :: midC x b m (k + 1) r
noncomputable def midL (old x : Str) (b m : Int) : Str := ⟨(midC x.cps.toList b m 0 old.cps.toList).toArray⟩
noncomputable def evO (σ : Sg) : Option T → List Int → Rs
  | none, l => .ok (.num 9) l
  | some μ, l => ev σ μ l
noncomputable def midE (σ : Sg) (p : Pl) (b m : Int) : Rs → RO
  | .bad c l => .bad c l
  | .ok (.num _) l => .bad "TM" l
  | .ok (.txt x) l => match σ.at p with
    | .num _ => .bad "TM" l
    | .txt old => if m < 0 ∨ b < 1 ∨ (old.length : Int) < b then .bad "FC" l else .ok (σ.put (.txt (midL old x b m)) p) l
noncomputable def midM (σ : Sg) (p : Pl) (b : Int) (υ : T) : Rs → RO
  | .bad c l => .bad c l
  | .ok (.num m) l => midE σ p b m (ev σ υ l)
  | .ok (.txt _) l => .bad "TM" l
noncomputable def midB (σ : Sg) (p : Pl) (μ : Option T) (υ : T) : Rs → RO
  | .bad c l => .bad c l
  | .ok (.num b) l => midM σ p b υ (evO σ μ l)
  | .ok (.txt _) l => .bad "TM" l
noncomputable def midP (σ : Sg) (φ : T) (μ : Option T) (υ : T) : RPl → RO
  | .bad c l => .bad c l
  | .ok p l => midB σ p μ υ (ev σ φ l)
noncomputable def midS (σ : Sg) (τ φ : T) (μ : Option T) (υ : T) (l : List Int) : RO := midP σ φ μ υ (pl σ τ l)
section
variable {w : World} {A : Around} {E : Value → Shared → Prop} {s : Shared} {x : Str} {t : Tok}
theorem ne_str_b {y : Str} {u : Tok} {b : Bool} {Q : Value → Shared → Prop} (e : (x != y) = b) (h : Q (.bool b) s) : wpAny (MG w) A (compareOp .NotEq (.str x t) (.str y u)) Q E s := ne_str (by subst e; exact h)
end
section
variable {w : World} {A : Around} {E : Value → Shared → Prop} {s : Shared} {h₀ : Heap} {L : Addr} {m : Str → Option Value} {news : Led}
theorem min3 {a b c : Int} {t u v : Tok} {Q : Value → Shared → Prop} (F : Fr h₀ L s.heap m) (N : News h₀ L s.heap news) (hh : A.handled = none)
    (h : ∀ r h' tk k, r ≤ a → r ≤ b → r ≤ c → (r = a ∨ r = b ∨ r = c) → Fr h₀ L h' m → News h₀ L h' news → Q (.int r k) { s with heap := h', toks := tk }) :
    wpAny (MG w) A (call (.builtin "min") [.int a t, .int b u, .int c v]) Q E s := by
  refine min_three_ints hh fun h' tk hk => ?_
  have F' : Fr h₀ L h' m := F.keeps hk
  have N' : News h₀ L h' news := fun p hp => ⟨hk _ _ (N p hp).1, (N p hp).2⟩
  by_cases h1 : b < a
  · rw [if_pos h1]
    by_cases h2 : c < b
    · rw [if_pos h2]; exact h _ _ _ _ (Int.le_of_lt (Int.lt_trans h2 h1)) (Int.le_of_lt h2) (Int.le_refl _) (.inr (.inr rfl)) F' N'
    · rw [if_neg h2]; exact h _ _ _ _ (Int.le_of_lt h1) (Int.le_refl _) (Int.not_lt.mp h2) (.inr (.inl rfl)) F' N'
  · rw [if_neg h1]
    by_cases h2 : c < a
    · rw [if_pos h2]; exact h _ _ _ _ (Int.le_of_lt h2) (Int.le_trans (Int.le_of_lt h2) (Int.not_lt.mp h1)) (Int.le_refl _) (.inr (.inr rfl)) F' N'
    · rw [if_neg h2]; exact h _ _ _ _ (Int.le_refl _) (Int.not_lt.mp h1) (Int.not_lt.mp h2) (.inl rfl) F' N'
end
theorem at_txt {σ : Sg} {p : Pl} (h : σ.Ok) (hp : p.Ok) (ht : p.isT = true) : ∃ s, σ.at p = .txt s ∧ s.length ≤ 4 := by
  have z := Sg.at_ok h hp
  rw [ht] at z
  cases e : σ.at p with
  | num x => rw [e] at z; exact z.elim
  | txt s => rw [e] at z; exact ⟨s, rfl, z⟩
noncomputable def T.short : T → Prop
  | .text s => s.length ≤ 4
  | _ => True
theorem ev_txt {σ : Sg} (hσ : σ.Ok) {τ : T} {l r : List Int} {x : Str} (h : τ.short) (e : ev σ τ l = .ok (.txt x) r) : x.length ≤ 4 := by
  have key : ∀ (b : Bool) (v : V), okV b v → v = .txt x → x.length ≤ 4 := fun b v h e => by subst e; cases b <;> first | exact h | exact h.elim
  cases τ with
  | whole n => cases e
  | text s => cases e; exact h
  | name p => exact key _ _ (hσ.1 p) (by injection e)
  | fn => cases l <;> cases e
  | neg n => cases e
  | item b τ =>
    have e : idx σ b (ev σ τ l) = .ok (.txt x) r := e
    cases hr : ev σ τ l with
    | bad c l' => rw [hr] at e; cases e
    | ok z l' =>
      rw [hr] at e
      cases z with
      | txt s => cases e
      | num i =>
        have e : (if 0 ≤ i ∧ i ≤ 3 then Rs.ok (σ.ar b i.toNat) l' else .bad "BS" l') = .ok (.txt x) r := e
        by_cases hi : 0 ≤ i ∧ i ≤ 3
        · rw [if_pos hi] at e
          exact key _ _ (hσ.2 b i.toNat (by omega)) (by injection e)
        · rw [if_neg hi] at e; cases e
theorem kind_ne {a b : Bool} (h : a ≠ b) : (kindS a != kindS b) = true := by cases a <;> cases b <;> first | exact absurd rfl h | decide
theorem kind_eq {a : Bool} : (kindS a != kindS a) = false := by cases a <;> decide
end
section
section
variable {σ : Sg} {τ φ υ : T} {μ : Option T} {l l1 l2 l9 l3 : List Int} {p : Pl} {b m i : Int} {c x old : Str}
theorem mid_b1 (h : pl σ τ l = .bad c l1) : midS σ τ φ μ υ l = .bad c l1 := by unfold midS; rw [h]; rfl
theorem mid_b2 (h : pl σ τ l = .ok p l1) (h2 : ev σ φ l1 = .bad c l2) : midS σ τ φ μ υ l = .bad c l2 := by unfold midS; rw [h]; show midB σ p μ υ (ev σ φ l1) = _; rw [h2]; rfl
theorem mid_b9 (h : pl σ τ l = .ok p l1) (h2 : ev σ φ l1 = .ok (.num b) l2) (h3 : evO σ μ l2 = .bad c l9) : midS σ τ φ μ υ l = .bad c l9 := by unfold midS; rw [h]; show midB σ p μ υ (ev σ φ l1) = _; rw [h2]; show midM σ p b υ (evO σ μ l2) = _; rw [h3]; rfl
theorem mid_e (h : pl σ τ l = .ok p l1) (h2 : ev σ φ l1 = .ok (.num b) l2) (h3 : evO σ μ l2 = .ok (.num m) l9) : midS σ τ φ μ υ l = midE σ p b m (ev σ υ l9) := by unfold midS; rw [h]; show midB σ p μ υ (ev σ φ l1) = _; rw [h2]; show midM σ p b υ (evO σ μ l2) = _; rw [h3]; rfl
theorem mid_b3 (h : pl σ τ l = .ok p l1) (h2 : ev σ φ l1 = .ok (.num b) l2) (h3 : evO σ μ l2 = .ok (.num m) l9) (h4 : ev σ υ l9 = .bad c l3) : midS σ τ φ μ υ l = .bad c l3 := by rw [mid_e h h2 h3, h4]; rfl
theorem mid_bn (h : pl σ τ l = .ok p l1) (h2 : ev σ φ l1 = .ok (.num b) l2) (h3 : evO σ μ l2 = .ok (.num m) l9) (h4 : ev σ υ l9 = .ok (.num i) l3) : midS σ τ φ μ υ l = .bad "TM" l3 := by rw [mid_e h h2 h3, h4]; rfl
theorem mid_t (h : pl σ τ l = .ok p l1) (h2 : ev σ φ l1 = .ok (.num b) l2) (h3 : evO σ μ l2 = .ok (.num m) l9) (h4 : ev σ υ l9 = .ok (.txt x) l3) (h5 : σ.at p = .txt old) : midS σ τ φ μ υ l = if m < 0 ∨ b < 1 ∨ (old.length : Int) < b then .bad "FC" l3 else .ok (σ.put (.txt (midL old x b m)) p) l3 := by
  rw [mid_e h h2 h3, h4]; show (match σ.at p with | .num _ => RO.bad "TM" l3 | .txt old => if m < 0 ∨ b < 1 ∨ (old.length : Int) < b then RO.bad "FC" l3 else .ok (σ.put (.txt (midL old x b m)) p) l3) = _; rw [h5]
theorem midr_ok (h : pl σ τ l = .ok p l1) (h2 : ev σ φ l1 = .ok (.num b) l2) (h3 : evO σ μ l2 = .ok (.num m) l9) (h4 : ev σ υ l9 = .ok (.txt x) l3) (h5 : σ.at p = .txt old) (h6 : ¬ (m < 0 ∨ b < 1 ∨ (old.length : Int) < b)) : midS σ τ φ μ υ l = .ok (σ.put (.txt (midL old x b m)) p) l3 := (mid_t h h2 h3 h4 h5).trans (if_neg h6)
theorem mid_fc (h : pl σ τ l = .ok p l1) (h2 : ev σ φ l1 = .ok (.num b) l2) (h3 : evO σ μ l2 = .ok (.num m) l9) (h4 : ev σ υ l9 = .ok (.txt x) l3) (h5 : σ.at p = .txt old) (h6 : m < 0 ∨ b < 1 ∨ (old.length : Int) < b) : midS σ τ φ μ υ l = .bad "FC" l3 := (mid_t h h2 h3 h4 h5).trans (if_pos h6)
end
end
section
open PyProof
theorem midC_get (x : List Nat) (b m : Int) : ∀ (o : List Nat) (k : Int) (i : Nat), (midC x b m k o)[i]? = (o[i]?).map fun c => if (0 ≤ k + i + 1 - b ∧ k + i + 1 - b < x.length) ∧ k + i + 1 - b < m then x.getD (k + i + 1 - b).toNat c else c
  | [], _, _ => by simp [midC]
  | c :: r, k, 0 => by
    have h : k + ((0 : Nat) : Int) + 1 - b = k + 1 - b := by omega
    simp only [h]
    rfl
  | c :: r, k, i + 1 => by
    have h := midC_get x b m r (k + 1) i
    have e : k + 1 + (i : Int) + 1 - b = k + ((i + 1 : Nat) : Int) + 1 - b := by omega
    rw [e] at h
    simpa [midC] using h
theorem midC_len (x : List Nat) (b m : Int) : ∀ (o : List Nat) (k : Int), (midC x b m k o).length = o.length
  | [], _ => rfl
  | _ :: r, k => by simp [midC, midC_len x b m r (k + 1)]
theorem midL_len (old x : Str) (b m : Int) : (midL old x b m).length = old.length := by
  show (midC x.cps.toList b m 0 old.cps.toList).toArray.size = old.cps.size
  rw [List.size_toArray, midC_len, Array.length_toList]
section
variable {x : List Nat} {b m : Int}
theorem mid_c {k : Int} {c : Nat} {r : List Nat} (h : ¬ (0 ≤ k + 1 - b ∧ k + 1 - b < x.length ∧ k + 1 - b < m)) : midC x b m k (c :: r) = c :: midC x b m (k + 1) r := congrArg (· :: midC x b m (k + 1) r) (if_neg fun z => h ⟨z.1.1, z.1.2, z.2⟩)
theorem mid_x {k : Int} {c j : Nat} {r : List Nat} (e : k + 1 - b = (j : Int)) (h1 : j < x.length) (h2 : (j : Int) < m) : midC x b m k (c :: r) = x[j] :: midC x b m (k + 1) r :=
  congrArg (· :: midC x b m (k + 1) r) ((if_pos (by rw [e]; exact ⟨⟨Int.natCast_nonneg j, Int.ofNat_lt.mpr h1⟩, h2⟩)).trans (by rw [e, Int.toNat_natCast, List.getD_eq_getElem?_getD, List.getElem?_eq_getElem h1]; rfl))
theorem mid_s {k j : Int} (e : k + 1 - b = j) : k + 1 + 1 - b = j + 1 := by rw [← e, Int.sub_eq_add_neg, Int.sub_eq_add_neg, Int.add_right_comm]
theorem mid_rest : ∀ {o : List Nat} {k : Int} {j : Nat}, k + 1 - b = (j : Int) → (x.length ≤ j ∨ m ≤ (j : Int)) → midC x b m k o = o := by
  intro o
  induction o with
  | nil => intro k j _ _; rfl
  | cons c o ih =>
    intro k j e h
    rw [mid_c fun z => h.elim (fun h => Nat.not_lt.mpr h (Int.ofNat_lt.mp (e ▸ z.2.1))) fun h => Int.not_lt.mpr h (e ▸ z.2.2)]
    exact congrArg (c :: ·) (ih (j := j + 1) (mid_s e) (h.imp Nat.le_succ_of_le fun h => Int.le_trans h (Int.ofNat_le.mpr (Nat.le_succ j))))
theorem mid_mid : ∀ {r : Nat} {o : List Nat} {k : Int} {j : Nat}, k + 1 - b = (j : Int) → j + r ≤ x.length → ((j + r : Nat) : Int) ≤ m → r ≤ o.length → (j + r = x.length ∨ r = o.length ∨ ((j + r : Nat) : Int) = m) → (x.drop j).take r ++ o.drop r = midC x b m k o := by
  intro r
  induction r with
  | zero =>
    intro o k j e _ _ _ h
    rw [List.take_zero, List.nil_append, List.drop_zero]
    rcases h with h | h | h
    · exact (mid_rest e (.inl (Nat.le_of_eq h.symm))).symm
    · rw [List.eq_nil_of_length_eq_zero h.symm]; rfl
    · exact (mid_rest e (.inr (Int.le_of_eq h.symm))).symm
  | succ r ih =>
    intro o k j e h1 h2 h3 h
    cases o with
    | nil => exact absurd h3 (Nat.not_succ_le_zero r)
    | cons c o =>
      have lt : j < j + (r + 1) := Nat.lt_add_of_pos_right (Nat.succ_pos r)
      have hj : j < x.length := Nat.lt_of_lt_of_le lt h1
      have q : j + 1 + r = j + (r + 1) := by rw [Nat.add_assoc, Nat.add_comm 1 r]
      rw [mid_x e hj (Int.lt_of_lt_of_le (Int.ofNat_lt.mpr lt) h2), ← ih (mid_s e : _ = ((j + 1 : Nat) : Int)) (q ▸ h1) (q ▸ h2) (Nat.le_of_succ_le_succ h3) (h.imp (q ▸ ·) (·.imp Nat.succ.inj (q ▸ ·))), List.drop_eq_getElem_cons hj]
      rfl
theorem mid_list : ∀ {a : Nat} {o : List Nat} {k : Int} {r : Nat}, k + 1 - b = -(a : Int) → a < o.length → r ≤ x.length → r ≤ o.length - a → (r : Int) ≤ m → (r = x.length ∨ r = o.length - a ∨ (r : Int) = m) → (o.take a ++ x.take r) ++ o.drop (a + r) = midC x b m k o := by
  intro a
  induction a with
  | zero =>
    intro o k r e _ h2 h3 h4 h
    have z := mid_mid (x := x) (m := m) (r := r) (o := o) (k := k) (j := 0) e (by rwa [Nat.zero_add]) (by rwa [Nat.zero_add]) h3 (by rwa [Nat.zero_add])
    rw [Nat.zero_add]
    exact z
  | succ a ih =>
    intro o k r e h1 h2 h3 h4 h
    cases o with
    | nil => exact absurd h1 (Nat.not_lt_zero _)
    | cons c o =>
      have n : k + 1 - b < 0 := by rw [e]; exact Int.neg_neg_of_pos (Int.natCast_pos.mpr (Nat.succ_pos a))
      rw [mid_c fun z => Int.not_lt.mpr z.1 n, ← ih (k := k + 1) ((mid_s e).trans (by rw [Int.natCast_succ, Int.neg_add, Int.neg_add_cancel_right])) (Nat.lt_of_succ_lt_succ h1) h2 (Nat.succ_sub_succ o.length a ▸ h3) h4 (Nat.succ_sub_succ o.length a ▸ h), Nat.succ_add]
      rfl
end
theorem mid1 (a : Nat) : ((a : Int) + 1 - 1 - 0).toNat = a := by rw [Int.add_sub_cancel, Int.sub_zero]; exact Int.toNat_natCast a
theorem mid2 (r : Nat) : ((r : Int) - 0).toNat = r := by rw [Int.sub_zero]; exact Int.toNat_natCast r
theorem mid3 (a r : Nat) : ((a : Int) + 1 - 1 + (r : Int)).toNat = a + r := by rw [Int.add_sub_cancel, ← Int.natCast_add]; exact Int.toNat_natCast _
theorem mid4 (n a r : Nat) : ((n : Int) - ((a : Int) + 1 - 1 + (r : Int))).toNat = n - (a + r) := by rw [Int.add_sub_cancel, ← Int.natCast_add]; exact Int.toNat_sub _ _
theorem mid_eq (old x : Str) (b m rm : Int) (h1 : 1 ≤ b) (h2 : b ≤ old.length) (r1 : rm ≤ x.length) (r2 : rm ≤ old.length - b + 1) (r3 : rm ≤ m) (r4 : rm = x.length ∨ rm = old.length - b + 1 ∨ rm = m) (hm : 0 ≤ m) :
    Txt.slice old none (some (b - 1)) ++ Txt.slice x none (some rm) ++ Txt.slice old (some (b - 1 + rm)) none = midL old x b m := by
  have lo : old.cps.toList.length = old.length := Array.length_toList
  have lx : x.cps.toList.length = x.length := Array.length_toList
  obtain ⟨a, rfl⟩ : ∃ a : Nat, b = (a : Int) + 1 := ⟨(b - 1).toNat, by rw [Int.toNat_of_nonneg (Int.sub_nonneg.mpr h1), Int.sub_add_cancel]⟩
  have ha : a < old.length := Int.ofNat_lt.mp h2
  have q : (old.length : Int) - ((a : Int) + 1) + 1 = ((old.length - a : Nat) : Int) := by rw [← Int.sub_sub, Int.sub_add_cancel, Int.ofNat_sub (Nat.le_of_lt ha)]
  rw [q] at r2 r4
  have r0 : 0 ≤ rm := by
    rcases r4 with h | h | h
    · rw [h]; exact Int.natCast_nonneg _
    · rw [h]; exact Int.natCast_nonneg _
    · rw [h]; exact hm
  obtain ⟨r, rfl⟩ : ∃ r : Nat, rm = (r : Int) := ⟨rm.toNat, (Int.toNat_of_nonneg r0).symm⟩
  have r1' : r ≤ x.length := Int.ofNat_le.mp r1
  have r2' : r ≤ old.length - a := Int.ofNat_le.mp r2
  have ar : a + r ≤ old.length := (Nat.le_sub_iff_add_le' (Nat.le_of_lt ha)).mp r2'
  have e1 := eq_of_beq (slice_closes_to (x := old) (j := (a : Int) + 1 - 1) ⟨by rw [Int.add_sub_cancel]; exact Int.natCast_nonneg a, by rw [lo, Int.add_sub_cancel]; exact Int.ofNat_le.mpr (Nat.le_of_lt ha)⟩)
  have e2 := eq_of_beq (slice_closes_to (x := x) (j := (r : Int)) ⟨r0, by rw [lx]; exact r1⟩)
  have e3 := slice_from_eq (x := old) (i := (a : Int) + 1 - 1 + (r : Int)) (by rw [Int.add_sub_cancel]; exact Int.natCast_nonneg (a + r)) (by rw [Int.add_sub_cancel]; exact Int.ofNat_le.mpr ar) rfl
  rw [e1, e2, e3, mid1, mid2, mid3, mid4]
  have z := mid_list (x := x.cps.toList) (b := (a : Int) + 1) (m := m) (a := a) (o := old.cps.toList) (k := 0) (r := r) (by rw [Int.zero_add, Int.add_comm, ← Int.sub_sub, Int.sub_self, Int.zero_sub]) (lo ▸ ha) (lx ▸ r1') (lo ▸ r2') r3 (r4.imp (fun h => lx ▸ Int.ofNat_inj.mp h) (·.imp_left fun h => lo ▸ Int.ofNat_inj.mp h))
  have t5 : (old.cps.toList.drop (a + r)).take (old.length - (a + r)) = old.cps.toList.drop (a + r) := List.take_of_length_le (by rw [List.length_drop, lo]; exact Nat.le_refl _)
  rw [t5]
  show Str.mk ((((old.cps.toList.drop (0 : Int).toNat).take a).toArray ++ ((x.cps.toList.drop (0 : Int).toNat).take r).toArray) ++ (old.cps.toList.drop (a + r)).toArray) = ⟨(midC x.cps.toList ((a : Int) + 1) m 0 old.cps.toList).toArray⟩
  rw [← z, List.append_toArray, List.append_toArray]
  rfl
end
section
noncomputable def elKind (prog : Program) (w : World) : KeyKind prog w (Str ⊕ Int) where
  is := fun k v => match k with | .inl x => (strKind prog w).is x v | .inr i => (intKind prog w).is i v
  hash := fun k => match k with | .inl x => (strKind prog w).hash x | .inr i => (intKind prog w).hash i
  inj := fun v a b ha hb => by
    cases a <;> cases b
    · exact congrArg _ ((strKind prog w).inj v _ _ ha hb)
    · obtain ⟨t, rfl⟩ := Value.isStrOf_shape ha; exact absurd hb (by simp [intKind, Value.isInt])
    · obtain ⟨t, rfl⟩ := Value.isInt_shape ha; exact absurd hb (by simp [PySem.strKind, Value.isStrOf])
    · exact congrArg _ ((intKind prog w).inj v _ _ ha hb)
  byValue := fun k v h => by
    cases k
    · exact (strKind prog w).byValue _ v h
    · exact (intKind prog w).byValue _ v h
  pyHash := fun {A E s k v Q} hv h => by
    cases k
    · exact (strKind prog w).pyHash hv h
    · exact (intKind prog w).pyHash hv h
  eqBool := fun {A E s a b u v Q} hu hv h => by
    cases a <;> cases b
    · exact (strKind prog w).eqBool hu hv (by simpa using h)
    · obtain ⟨t, rfl⟩ := Value.isStrOf_shape hu; obtain ⟨t', rfl⟩ := Value.isInt_shape hv
      exact SeqAt.EqAt.str_int _ _ _ _ prog w E Q (by simpa using h)
    · obtain ⟨t, rfl⟩ := Value.isInt_shape hu; obtain ⟨t', rfl⟩ := Value.isStrOf_shape hv
      exact SeqAt.EqAt.int_str _ _ _ _ prog w E Q (by simpa using h)
    · exact (intKind prog w).eqBool hu hv (by simpa using h)
  «strs» := fun k x t v h => by
    cases k
    · exact (PySem.strKind prog w).«strs» _ x t v h
    · exact absurd h (by simp [intKind, Value.isInt])
inductive BK | s (x : Str) | p (x : Str) (i : Int)
  deriving DecidableEq
noncomputable def BK.is (w : World) (h : Heap) : BK → Value → Prop
  | .s x, v => ∃ t, v = .str x t
  | .p x i, v => ∃ a, v = .ref a ∧ IsTupleKey (elKind PG w) h [.inl x, .inr i] a
noncomputable def BK.hash (w : World) : BK → Int
  | .s x => hashStr w x
  | .p x i => tupleKeyHash (elKind PG w) [.inl x, .inr i]
noncomputable def BK.draws : BK → Nat | .s _ => 1 | .p _ _ => 3
noncomputable def BK.isP : BK → Bool | .s _ => false | .p _ _ => true
section
variable {w : World} {A : Around} {E : Value → Shared → Prop} {s : Shared}
theorem tupKey_is {h : Heap} {ks : List (Str ⊕ Int)} {a : Addr} (x : IsTupleKey (elKind PG w) h ks a) : ∃ items, h.IsTuple a items := let ⟨o, items, n, ho, hc, hd, _⟩ := x; ⟨items, o, ho, hc, n, hd⟩
theorem BK.pyHash {k : BK} {v : Value} {Q : Int → Shared → Prop} (hu : A.units < cLine) (hk : k.is w s.heap v) (h : Q (k.hash w) { s with toks := s.toks + k.draws }) : wpAny (MG w) A (PySem.pyHash v) Q E s := by
  cases k with
  | s x => obtain ⟨t, rfl⟩ := hk; exact wpAny_pyHash_str h
  | p x i => obtain ⟨a, rfl, hk⟩ := hk; exact wpAny_pyHash_tuple hu hk h
theorem BK.eqBool {x y : BK} {a b : Value} {Q : Bool → Shared → Prop} (hu : A.units < cLine) (hx : x.is w s.heap a) (hy : y.is w s.heap b) (h : Q (decide (x = y)) s) : wpAny (MG w) A (PySem.eqBool a b) Q E s := by
  cases x with
  | s x =>
    obtain ⟨t, rfl⟩ := hx
    cases y with
    | s y => obtain ⟨t', rfl⟩ := hy; exact wpAny_eqBool_str (by simpa using h)
    | p y j => obtain ⟨b, rfl, hy⟩ := hy; obtain ⟨its, hi⟩ := tupKey_is hy; exact SeqAt.EqAt.str_tuple _ _ hi hu PG w E Q (by simpa using h)
  | p x i =>
    obtain ⟨a, rfl, hx⟩ := hx
    cases y with
    | s y => obtain ⟨t', rfl⟩ := hy; obtain ⟨its, hi⟩ := tupKey_is hx; exact SeqAt.EqAt.tuple_str _ _ hi hu PG w E Q (by simpa using h)
    | p y j => obtain ⟨b, rfl, hy⟩ := hy; exact wpAny_eqBool_tuple hu hx hy (by simpa using h)
theorem BK.quiet {k : BK} {v : Value} {Q : Bool → Shared → Prop} (hk : k.is w s.heap v) (h : Q true s) : wpAny (MG w) A (eqIsQuiet 8 v) Q E s := by
  cases k with
  | s x => obtain ⟨t, rfl⟩ := hk; rw [eqIsQuiet_byValue _ (by rfl)]; exact wpAny_pure h
  | p x i => obtain ⟨a, rfl, hk⟩ := hk; exact wpAny_eqIsQuiet_tuple hk h
theorem BK.inj {h : Heap} {x y : BK} {v : Value} (hx : x.is w h v) (hy : y.is w h v) : x = y := by
  cases x <;> cases y
  · obtain ⟨t, rfl⟩ := hx; obtain ⟨t', e⟩ := hy; cases e; rfl
  · obtain ⟨t, rfl⟩ := hx; obtain ⟨t', e, -⟩ := hy; cases e
  · obtain ⟨a, rfl, -⟩ := hx; obtain ⟨t', e⟩ := hy; cases e
  · obtain ⟨a, rfl, hx⟩ := hx
    obtain ⟨b, e, hy⟩ := hy
    cases e
    have z := hx.inj hy
    injection z with z1 z2
    injection z1 with z1
    injection z2 with z2 _
    injection z2 with z2
    rw [z1, z2]
theorem tellsNot {v : Value} {k : BK} {stored : List Value} {Q : Bool → Shared → Prop} (hk : k.is w s.heap v) (hst : ∀ u ∈ stored, ∃ k' : BK, k'.is w s.heap u) (h : Q false s) : wpAny (MG w) A (tableMayTell v stored) Q E s := by
  unfold tableMayTell
  split
  · exact wpAny_pure h
  · refine wpAny_bind (BK.quiet hk ?_)
    simp only [Bool.not_true, Bool.false_eq_true, if_false]
    refine wpAny_bind (wpAny_forIn_list _ (fun rest r s' => s' = s ∧ r = (none, ()) ∧ ∀ u ∈ rest, ∃ k' : BK, k'.is w s.heap u) _ ?_ ?_ _ _ ⟨rfl, rfl, hst⟩)
    · rintro u rest r s' ⟨rfl, rfl, hr⟩
      obtain ⟨k', hk'⟩ := hr u (.head _)
      refine wpAny_bind (BK.quiet hk' ?_)
      simp only [Bool.not_true, Bool.false_eq_true, if_false]
      exact wpAny_pure ⟨rfl, rfl, fun u' hu' => hr u' (.tail _ hu')⟩
    · rintro r s' ⟨rfl, rfl, _⟩
      exact wpAny_pure h
end
end
section
noncomputable def BK.entry (w : World) (x : BK × Value × Value) : DictEntry := ⟨x.1.hash w, x.2.1, x.2.2⟩
section
variable {w : World} {A : Around} {E : Value → Shared → Prop} {s : Shared}
theorem ifn {α : Type} {M : Model} {c : Prop} [Decidable c] {a b : Sem α} {Q : α → Shared → Prop} (h : ¬c) (x : wpAny M A b Q E s) : wpAny M A (if c then a else b) Q E s := by rw [if_neg h]; exact x
theorem ifp {α : Type} {M : Model} {c : Prop} [Decidable c] {a b : Sem α} {Q : α → Shared → Prop} (h : c) (x : wpAny M A a Q E s) : wpAny M A (if c then a else b) Q E s := by rw [if_pos h]; exact x
theorem once {G P1 P2 C : Prop} (hor : P1 ∨ P2) (g : G) (h1 : G → P1 → C) (h2 : G → P2 → C) : C := hor.elim (h1 g) (h2 g)
theorem tellsBoth {v : Value} {k : BK} {stored : List Value} {α : Type} {f : Bool → Sem α} {c : Bool} {Q : α → Shared → Prop} (hk : k.is w s.heap v) (hst : ∀ u ∈ stored, ∃ k' : BK, k'.is w s.heap u) (h : wpAny (MG w) A (f false) Q E s) :
    wpAny (MG w) A (if c = true then pure false >>= f else tableMayTell v stored >>= f) Q E s := by
  cases c
  · exact wpAny_bind (tellsNot hk hst h)
  · exact wpAny_bind (wpAny_pure h)
inductive FmA {β : Type} (b0 : β) (s : Shared) (xs : List (BK × Value × Value)) (k : BK) (places rest : List Nat) (b : β) (s' : Shared) : Prop | mk (e : s' = s) (e2 : b = b0) (h : ∀ i ∈ rest, i ∈ places) (hj : ∀ (j : Nat) (p : Value × Value), xs[j]? = some (k, p) → j ∈ rest)
inductive FmH (xs : List (BK × Value × Value)) (k : BK) (rest : List Nat) (b : Option Nat) : Prop | no (e : b = none) (h : ∀ (j : Nat) (p : Value × Value), xs[j]? = some (k, p) → j ∈ rest) | yes (j : Nat) (p : Value × Value) (e : b = some j) (h : xs[j]? = some (k, p)) (n : j ∉ rest)
inductive FmB {α : Type} (s : Shared) (xs : List (BK × Value × Value)) (k : BK) (places rest : List Nat) (b1 : Option α) (b2 : Option Nat) (s' : Shared) : Prop | mk (e : s' = s) (e2 : b1 = none) (h : ∀ i ∈ rest, i ∈ places) (nd : rest.Nodup) (hj : FmH xs k rest b2)
theorem findMix {d : Addr} {v : Value} {o : Obj} {es : Array DictEntry} {ep : Nat} {xs : List (BK × Value × Value)} {k : BK} {Q : Option Nat → Shared → Prop} (hu : A.units < cLine) (hk : k.is w s.heap v)
    (ho : s.heap.get? d = some o) (hd : o.data = .dict es ep) (he : es.toList = xs.map (BK.entry w)) (his : ∀ x ∈ xs, x.1.is w s.heap x.2.1) (hn : (xs.map (·.1)).Nodup) (hp : k.isP = false → ∃ x ∈ xs, x.1.isP = true)
    (hno : (∀ (j : Nat) (p : Value × Value), xs[j]? ≠ some (k, p)) → Q none s) (hsome : ∀ (j : Nat) (p : Value × Value), xs[j]? = some (k, p) → Q (some j) s) :
    wpAny (MG w) A (dictFind d v (k.hash w)) Q E s := by
  have at' : ∀ j, es[j]? = (xs[j]?).map (BK.entry w) := fun j => by rw [← Array.getElem?_toList, he, List.getElem?_map]
  have hmem : ∀ e ∈ es, ∃ x ∈ xs, e = BK.entry w x := fun e hin => by
    have z : e ∈ xs.map (BK.entry w) := he ▸ Array.mem_toList_iff.mpr hin
    obtain ⟨x, hx, rfl⟩ := List.mem_map.mp z
    exact ⟨x, hx, rfl⟩
  have uniq : ∀ {i j : Nat} {p q : Value × Value}, xs[i]? = some (k, p) → xs[j]? = some (k, q) → i = j := fun {i j p q} hi hj => by
    have hi' : (xs.map (·.1))[i]? = some k := by rw [List.getElem?_map, hi]; rfl
    have hj' : (xs.map (·.1))[j]? = some k := by rw [List.getElem?_map, hj]; rfl
    exact (List.getElem?_inj (List.getElem?_eq_some_iff.mp hi').1 hn).mp (hi'.trans hj'.symm)
  generalize hps : placesWithHash es.size (fun i => es[i]?.map (·.hash)) (k.hash w) = places
  have pin : ∀ i ∈ places, ∃ kp p, xs[i]? = some (kp, p) ∧ kp.hash w = k.hash w := fun i hi => by
    rw [← hps] at hi
    obtain ⟨h1, h2⟩ := List.mem_filter.mp hi
    dsimp only at h2
    rw [at' i] at h2
    cases hx : xs[i]? with
    | none => rw [hx] at h2; cases h2
    | some x => rw [hx] at h2; exact ⟨x.1, x.2, rfl, by simpa [BK.entry] using h2⟩
  have pall : ∀ (j : Nat) (p : Value × Value), xs[j]? = some (k, p) → j ∈ places := fun j p hj => by
    rw [← hps]
    refine List.mem_filter.mpr ⟨List.mem_range.mpr ?_, ?_⟩
    · have := (List.getElem?_eq_some_iff.mp hj).1
      rw [← Array.length_toList, he, List.length_map]; exact this
    · dsimp only; rw [at' j, hj]; simp [BK.entry]
  have pnd : places.Nodup := by rw [← hps]; exact List.nodup_range.sublist List.filter_sublist
  have stored : ∀ u ∈ places.filterMap (fun i => es[i]?.map (·.key)), ∃ k' : BK, k'.is w s.heap u := fun u hu => by
    obtain ⟨i, hi, hv⟩ := List.mem_filterMap.mp hu
    obtain ⟨kp, p, hx, -⟩ := pin i hi
    rw [at' i, hx] at hv
    cases Option.some.inj hv
    exact ⟨kp, his _ (List.mem_of_getElem? hx)⟩
  unfold dictFind
  try with_reducible refine wpAny_holding ?_
  refine wpAny_bind (wpAny_dictEntries ho hd ?_)
  dsimp only
  have hany : ¬ (es.any fun e => e.key == v && e.hash != k.hash w) = true := by
    rw [← Array.any_toList, List.any_eq_true]
    rintro ⟨e, hin, hc⟩
    obtain ⟨x, hx, rfl⟩ := hmem e (Array.mem_toList_iff.mp hin)
    simp only [BK.entry, Bool.and_eq_true, beq_iff_eq, bne_iff_ne, ne_eq] at hc
    have z := his x hx
    rw [hc.1] at z
    exact hc.2 (by rw [BK.inj z hk])
  have hall : k.isP = false → ¬ (es.all fun e => isExactStrKey e.key) = true := fun hf => by
    obtain ⟨x, hx, hxp⟩ := hp hf
    rw [← Array.all_toList, he, List.all_eq_true]
    intro h
    have z := h _ (List.mem_map.mpr ⟨x, hx, rfl⟩)
    have z2 := his x hx
    obtain ⟨kx, kv, val⟩ := x
    cases kx with
    | s x => cases hxp
    | p x i => obtain ⟨a, e, -⟩ := z2; dsimp only at e; subst e; cases z
  have plain : wpAny (MG w) A (dictWalkPlain d v (k.hash w) es places) Q E s := by
    unfold dictWalkPlain
    refine wpAny_bind (wpAny_forIn_list _ (FmA (none, ()) s xs k places) _ ?_ ?_ _ _ ⟨rfl, rfl, fun _ h => h, pall⟩)
    · rintro i rest b s' ⟨rfl, rfl, hin, hj⟩
      obtain ⟨kp, p, hx, hh⟩ := pin i (hin i (.head _))
      have hx' : es[i]? = some (BK.entry w (kp, p)) := by rw [at' i, hx]; rfl
      rw [hx']
      dsimp only [BK.entry]
      refine ifp (by rw [hh]; exact beq_self_eq_true _) ?_
      refine wpAny_bind (wpAny_dictEpoch ho hd (wpAny_bind (BK.eqBool hu (his _ (List.mem_of_getElem? hx)) hk (wpAny_bind (wpAny_dictEpoch ho hd ?_)))))
      refine ifn (by simp) ?_
      by_cases hkk : kp = k
      · subst hkk
        refine ifp (by simp) ?_
        exact wpAny_bind (wpAny_rule (wpAny_pure (wpAny_pure (hsome i p hx))))
      · refine ifn (by simpa using hkk) ?_
        refine wpAny_bind (wpAny_rule (wpAny_pure ⟨rfl, rfl, fun i' h => hin i' (.tail _ h), fun j p' h => ?_⟩))
        rcases List.mem_cons.mp (hj j p' h) with rfl | h'
        · rw [hx] at h; exact absurd (congrArg Prod.fst (Option.some.inj h)) hkk
        · exact h'
    · rintro b s' ⟨rfl, rfl, _, hj⟩
      exact wpAny_pure (hno fun j p h => by cases hj j p h)
  refine' once (P1 := ∃ y t, v = .str y t ∧ k.isP = false) (P2 := ∃ a, v = .ref a) ?or ?g ?h1 ?h2
  case or =>
    cases k with
    | s x => obtain ⟨t, e⟩ := hk; exact .inl ⟨x, t, e, rfl⟩
    | p x i => obtain ⟨a, e, -⟩ := hk; exact .inr ⟨a, e⟩
  case h1 =>
    rintro g ⟨y, t, hv, hf⟩
    rw [hv]
    dsimp only
    refine ifn (hall hf) ?_
    rw [hps, ← hv]
    refine wpAny_ite_split (fun _ => plain) (fun _ => ?_)
    refine tellsBoth hk stored ?_
    assumption
  case h2 =>
    rintro g ⟨a, hv⟩
    rw [hv]
    dsimp only
    rw [hps, ← hv]
    refine ifn (show ¬ ((v :: places.filterMap (fun i => es[i]?.map (·.key))).all carriedByValue) = true by rw [hv]; simp [carriedByValue]) (ifn hany ?_)
    refine tellsBoth hk stored ?_
    assumption
  case g =>
    refine ifn (by simp) ?_
    refine wpAny_bind (wpAny_forIn_list _ (fun rest b => FmB s xs k places rest b.1 b.2) _ ?_ ?_ _ _ ⟨rfl, rfl, fun _ h => h, pnd, .no rfl pall⟩)
    · rintro i rest ⟨b1, hit⟩ s' ⟨rfl, hb, hin, nd, hj⟩
      dsimp only at hb hj
      subst hb
      obtain ⟨kp, p, hx, hh⟩ := pin i (hin i (.head _))
      have hx' : es[i]? = some (BK.entry w (kp, p)) := by rw [at' i, hx]; rfl
      obtain ⟨nd1, nd2⟩ := List.nodup_cons.mp nd
      rw [hx']
      dsimp only [BK.entry]
      refine ifp (by rw [hh]; exact beq_self_eq_true _) ?_
      refine wpAny_bind (wpAny_dictEpoch ho hd (wpAny_bind (BK.eqBool hu (his _ (List.mem_of_getElem? hx)) hk (wpAny_bind (wpAny_dictEpoch ho hd ?_)))))
      refine ifn (by simp) ?_
      by_cases hkk : kp = k
      · subst hkk
        refine ifp (by simp) ?_
        rcases hj with ⟨rfl, hj⟩ | ⟨j, p', rfl, hj, hjn⟩
        · refine ifn (by simp) ?_
          refine wpAny_bind (wpAny_rule ?_)
          split
          · exact wpAny_pure (wpAny_pure (hsome i p hx))
          · exact wpAny_pure ⟨rfl, rfl, fun i' h => hin i' (.tail _ h), nd2, .yes i p rfl hx nd1⟩
        · exact absurd (uniq hj hx ▸ List.mem_cons_self) hjn
      · refine ifn (by simpa using hkk) ?_
        refine wpAny_bind (wpAny_rule ?_)
        refine ifn (by simp) ?_
        refine wpAny_pure ⟨rfl, rfl, fun i' h => hin i' (.tail _ h), nd2, ?_⟩
        rcases hj with ⟨h0, hj⟩ | ⟨j, p', h1, hj, hjn⟩
        · refine .no h0 fun j p' h => ?_
          rcases List.mem_cons.mp (hj j p' h) with rfl | h'
          · rw [hx] at h; exact absurd (congrArg Prod.fst (Option.some.inj h)) hkk
          · exact h'
        · exact .yes j p' h1 hj fun h => hjn (.tail _ h)
    · rintro ⟨b1, hit⟩ s' ⟨rfl, hb, _, _, hj⟩
      dsimp only at hb hj
      subst hb
      rcases hj with ⟨rfl, hj⟩ | ⟨j, p', rfl, hj, _⟩
      · exact wpAny_pure (hno fun j p h => by cases hj j p h)
      · exact wpAny_pure (hsome j p' hj)
end
end
section
noncomputable abbrev BKs := List (BK × Value × Value)
noncomputable def valAt (xs : BKs) (k : BK) : Option Value := (xs.find? fun x => decide (x.1 = k)).map (·.2.2)
noncomputable def putB (k : BK) (y : Value) (x : BK × Value × Value) : BK × Value × Value := if x.1 = k then (x.1, x.2.1, y) else x
noncomputable def storedB (xs : BKs) (k : BK) (v y : Value) : BKs := if (valAt xs k).isSome then xs.map (putB k y) else xs ++ [(k, v, y)]
theorem valAt_get {xs : BKs} (hn : (xs.map (·.1)).Nodup) {k : BK} {p : Value × Value} : ∀ {j : Nat}, xs[j]? = some (k, p) → valAt xs k = some p.2 := by
  induction xs with
  | nil => intro j h; cases h
  | cons x r ih =>
    intro j h
    rw [List.map_cons, List.nodup_cons] at hn
    unfold valAt
    cases j with
    | zero =>
      cases Option.some.inj h
      rw [List.find?_cons_of_pos (by simp)]
      rfl
    | succ j =>
      have h : r[j]? = some (k, p) := h
      have hm : k ∈ r.map (·.1) := List.mem_map.mpr ⟨(k, p), List.mem_of_getElem? h, rfl⟩
      rw [List.find?_cons_of_neg (by simpa using fun e : x.1 = k => hn.1 (e ▸ hm))]
      exact ih hn.2 h
theorem valAt_some {xs : BKs} {k : BK} {y : Value} (h : valAt xs k = some y) : ∃ (j : Nat) (v : Value), xs[j]? = some (k, v, y) := by
  unfold valAt at h
  cases e : xs.find? fun x => decide (x.1 = k) with
  | none => rw [e] at h; cases h
  | some x =>
    rw [e] at h
    cases Option.some.inj h
    obtain ⟨j, hj⟩ := List.mem_iff_getElem?.mp (List.mem_of_find?_eq_some e)
    have hk : x.1 = k := by simpa using List.find?_some e
    subst hk
    exact ⟨j, x.2.1, hj⟩
theorem keys_putB (xs : BKs) (k : BK) (y : Value) : (xs.map (putB k y)).map (·.1) = xs.map (·.1) := by
  rw [List.map_map]
  refine List.map_congr_left fun x _ => ?_
  show (putB k y x).1 = x.1
  unfold putB
  split <;> rfl
theorem find_putB (xs : BKs) (k k' : BK) (y : Value) : (xs.map (putB k y)).find? (fun x => decide (x.1 = k')) = (xs.find? fun x => decide (x.1 = k')).map (putB k y) := by
  rw [List.find?_map]
  have e : ((fun x : BK × Value × Value => decide (x.1 = k')) ∘ putB k y) = fun x => decide (x.1 = k') := funext fun x => by
    show decide ((putB k y x).1 = k') = decide (x.1 = k')
    unfold putB
    split <;> rfl
  rw [e]
theorem valAt_put {xs : BKs} {k k' : BK} {y : Value} (h : (valAt xs k).isSome) : valAt (xs.map (putB k y)) k' = if k' = k then some y else valAt xs k' := by
  unfold valAt at h ⊢
  rw [find_putB]
  by_cases hk : k' = k
  · subst hk
    rw [if_pos rfl]
    cases e : xs.find? fun x => decide (x.1 = k') with
    | none => rw [e] at h; cases h
    | some x =>
      have hx : x.1 = k' := by simpa using List.find?_some e
      show some (putB k' y x).2.2 = some y
      unfold putB
      rw [if_pos hx]
  · rw [if_neg hk]
    cases e : xs.find? fun x => decide (x.1 = k') with
    | none => rfl
    | some x =>
      have hx : x.1 = k' := by simpa using List.find?_some e
      show some (putB k y x).2.2 = some x.2.2
      unfold putB
      rw [if_neg (by rw [hx]; exact hk)]
theorem modify_putB (w : World) (k : BK) (y : Value) : ∀ {xs : BKs} {j : Nat} {p : Value × Value}, (xs.map (·.1)).Nodup → xs[j]? = some (k, p) → (xs.map (BK.entry w)).modify j (fun e => { e with val := y }) = (xs.map (putB k y)).map (BK.entry w) := by
  intro xs
  induction xs with
  | nil => intro j p _ h; cases h
  | cons x r ih =>
    intro j p hn h
    rw [List.map_cons, List.nodup_cons] at hn
    cases j with
    | zero =>
      cases Option.some.inj h
      have e : r.map (putB k y) = r := by
        refine (List.map_congr_left fun z hz => ?_).trans (List.map_id r)
        show putB k y z = z
        unfold putB
        rw [if_neg fun e => hn.1 (List.mem_map.mpr ⟨z, hz, e⟩)]
      rw [List.map_cons, List.map_cons, e]
      show _ :: _ = BK.entry w (putB k y (k, p)) :: _
      unfold putB
      rw [if_pos rfl]
      rfl
    | succ j =>
      have h : r[j]? = some (k, p) := h
      have hm : k ∈ r.map (·.1) := List.mem_map.mpr ⟨(k, p), List.mem_of_getElem? h, rfl⟩
      have e : putB k y x = x := by
        unfold putB
        rw [if_neg fun e : x.1 = k => hn.1 (by rw [e]; exact hm)]
      rw [List.map_cons, List.map_cons, List.map_cons, e]
      exact congrArg (BK.entry w x :: ·) (ih hn.2 h)
inductive BookD (w : World) (P : BK → Value → Prop) (o : Obj) (xs : BKs) : Prop | mk (es : Array DictEntry) (ep : Nat) (e : o.data = .dict es ep) (l : es.toList = xs.map (BK.entry w)) (k : ∀ x ∈ xs, P x.1 x.2.1) (n : (xs.map (·.1)).Nodup)
noncomputable def BookAt (w : World) (h : Heap) (o : Obj) (xs : BKs) : Prop := o.ExactDict ∧ BookD w (fun k v => k.is w h v) o xs
section
variable {w : World} {A : Around} {E : Value → Shared → Prop} {s : Shared} {d : Addr} {v : Value} {o : Obj} {xs : BKs} {k : BK}
theorem BK.is_keeps {h h' : Heap} {k : BK} {v : Value} {d : Addr} {o : Obj} {es : Array DictEntry} {ep : Nat} (x : k.is w h v) (ho : h.get? d = some o) (hd : o.data = .dict es ep) (hs : Heap.SameBut d h h') : k.is w h' v := by
  cases k with
  | s y => exact x
  | p y i => obtain ⟨a, e, x⟩ := x; exact ⟨a, e, x.keeps ho hd hs⟩
theorem bookGet {y : Value} {Q : Option Value → Shared → Prop} (hu : A.units < cLine) (hk : k.is w s.heap v) (ho : s.heap.get? d = some o) (B : BookAt w s.heap o xs) (hp : k.isP = false → ∃ x ∈ xs, x.1.isP = true) (hy : valAt xs k = some y)
    (h : Q (some y) { s with toks := s.toks + k.draws }) : wpAny (MG w) A (dictGet d v) Q E s := by
  obtain ⟨_, es, ep, hd, he, his, hn⟩ := B
  unfold dictGet
  try with_reducible refine wpAny_holding ?_
  obtain ⟨j₀, v₀, hj₀⟩ := valAt_some hy
  refine wpAny_bind (BK.pyHash hu hk (wpAny_bind (findMix (s := { s with toks := s.toks + k.draws }) hu hk ho hd he his hn hp (fun hno => absurd hj₀ (hno _ _)) fun j p hj => ?_)))
  refine wpAny_bind (wpAny_dictEntries (s := { s with toks := s.toks + k.draws }) ho hd ?_)
  have e : es[j]? = some (BK.entry w (k, p)) := by rw [← Array.getElem?_toList, he, List.getElem?_map, hj]; rfl
  rw [e]
  have z : p.2 = y := Option.some.inj ((valAt_get hn hj).symm.trans hy)
  refine wpAny_pure ?_
  show Q (some p.2) _
  rw [z]
  exact h
theorem bookSet {y : Value} {Q : Unit → Shared → Prop} (hu : A.units < cLine) (hk : k.is w s.heap v) (ho : s.heap.get? d = some o) (B : BookAt w s.heap o xs) (hp : k.isP = false → ∃ x ∈ xs, x.1.isP = true) (hsz : xs.length ≤ sizeLine)
    (hQ : ∀ h' o', h'.get? d = some o' → BookAt w h' o' (storedB xs k v y) → Heap.SameBut d s.heap h' → Q () { s with heap := h', toks := s.toks + k.draws }) : wpAny (MG w) A (dictSet d v y) Q E s := by
  obtain ⟨hc, es, ep, hd, he, his, hn⟩ := B
  have hes : es.size = xs.length := by rw [← Array.length_toList, he, List.length_map]
  unfold dictSet
  try with_reducible refine wpAny_holding ?_
  refine wpAny_bind (BK.pyHash hu hk ?_)
  unfold dictSetHashed
  try with_reducible refine wpAny_holding ?_
  refine wpAny_bind (findMix (s := { s with toks := s.toks + k.draws }) hu hk ho hd he his hn hp (fun hno => ?_) fun j p hj => ?_)
  · have hv : valAt xs k = none := by
      cases e : valAt xs k with
      | none => rfl
      | some y => obtain ⟨j, v, hj⟩ := valAt_some e; exact absurd hj (hno _ _)
    refine wpAny_bind (wpAny_rule (wpAny_updateDictKeys (hz := by omega) (s := { s with toks := s.toks + k.draws }) ho hd (hQ _ _ (Heap.get?_update_self _ ho (Obj.isFreed_of_dict (Obj.data_mapDictKeys hd _))) ⟨hc.mapDictKeys _, _, ep + 1, Obj.data_mapDictKeys hd _, ?_, ?_, ?_⟩ (Heap.SameBut.update ..))))
    · unfold storedB
      rw [hv]
      simp [he, BK.entry]
    · unfold storedB
      rw [hv]
      intro x hx
      rcases List.mem_append.mp hx with hx | hx
      · exact BK.is_keeps (his x hx) ho hd (Heap.SameBut.update ..)
      · rw [List.mem_singleton.mp hx]; exact BK.is_keeps hk ho hd (Heap.SameBut.update ..)
    · unfold storedB
      rw [hv]
      show ((xs ++ [(k, v, y)]).map (·.1)).Nodup
      rw [List.map_append, List.nodup_append]
      refine ⟨hn, by simp, fun a ha b hb e => ?_⟩
      have hb : b = k := by simpa using hb
      subst hb
      subst e
      obtain ⟨x, hx, e⟩ := List.mem_map.mp ha
      obtain ⟨j, hj⟩ := List.mem_iff_getElem?.mp hx
      exact hno j x.2 (by rw [hj, ← e])
  · have hv := valAt_get hn hj
    refine wpAny_bind (wpAny_rule (wpAny_bind (wpAny_updateDict (s := { s with toks := s.toks + k.draws }) ho hd (wpAny_point (hQ _ _ (Heap.get?_update_self _ ho (Obj.isFreed_of_dict (Obj.data_mapDict hd _))) ⟨hc.mapDict _, _, ep, Obj.data_mapDict hd _, ?_, ?_, ?_⟩ (Heap.SameBut.update ..))))))
    · unfold storedB
      rw [hv]
      have z := modify_putB w k y hn hj
      rw [← he] at z
      obtain ⟨l⟩ := es
      simpa using z
    · unfold storedB
      rw [hv]
      intro x hx
      obtain ⟨z, hz, rfl⟩ := List.mem_map.mp hx
      unfold putB
      split <;> exact BK.is_keeps (his z hz) ho hd (Heap.SameBut.update ..)
    · unfold storedB
      rw [hv]
      show ((xs.map (putB k y)).map (·.1)).Nodup
      rw [keys_putB]
      exact hn
end
end
section
inductive KeyP (st : Led) (x : Str) (i : Int) (v : Value) : Prop | mk (a : Nat) (k1 k2 : Tok) (e : v = .ref a) (m : (a, tupOf [.str x k1, .int i k2] 0) ∈ st)
noncomputable def KeyIn (st : Led) : BK → Value → Prop
  | .s x, v => ∃ t, v = .str x t
  | .p x i, v => KeyP st x i v
noncomputable def BV (v : Value) : V → Prop
  | .num x => ∃ k, v = .int x k
  | .txt s => ∃ k, v = .str s k
theorem BV.pv {st : Led} {v : Value} : ∀ {y : V}, BV v y → PV st v y
  | .num _, h => .inl h
  | .txt _, h => h
noncomputable def BookO (w : World) (st : Led) (o : Obj) (xs : BKs) : Prop := o.ExactDict ∧ BookD w (KeyIn st) o xs
theorem KeyIn.up {st n : Led} (h : ∀ p ∈ st, p.2.cls = .type "tuple" → p ∈ n) {k : BK} {v : Value} (x : KeyIn st k v) : KeyIn n k v := by
  cases k with
  | s => exact x
  | p => obtain ⟨a, k1, k2, e, m⟩ := x; exact ⟨a, k1, k2, e, h _ m rfl⟩
theorem el_s {w : World} {x : Str} {t : Tok} : (elKind PG w).is (.inl x) (.str x t) = true := by simp [elKind, PySem.strKind, Value.isStrOf]
theorem el_i {w : World} {i : Int} {t : Tok} : (elKind PG w).is (.inr i) (.int i t) = true := by simp [elKind, intKind, Value.isInt]
theorem KeyIn.is {w : World} {h₀ h : Heap} {L : Addr} {st : Led} (N : News h₀ L h st) {k : BK} {v : Value} (x : KeyIn st k v) : k.is w h v := by
  cases k with
  | s => exact x
  | p => obtain ⟨a, k1, k2, e, m⟩ := x; exact ⟨a, e, _, _, 0, (N _ m).1, rfl, rfl, .cons el_s (.cons el_i .nil)⟩
theorem BookO.up {w : World} {st n : Led} {o : Obj} {xs : BKs} (h : ∀ p ∈ st, p.2.cls = .type "tuple" → p ∈ n) (B : BookO w st o xs) : BookO w n o xs := by
  obtain ⟨a, es, ep, b, c, d, e⟩ := B
  exact ⟨a, es, ep, b, c, fun x hx => (d x hx).up h, e⟩
theorem BookO.nt {w : World} {st : Led} {o : Obj} {xs : BKs} (B : BookO w st o xs) : o.cls ≠ .type "tuple" := by
  rw [B.1.1]; intro h; injection h with h; revert h; decide
section
variable {w : World} {A : Around} {E : Value → Shared → Prop} {s : Shared} {h₀ h : Heap} {L : Addr} {m : Str → Option Value} {news : Led} {d : Addr} {v : Value} {o : Obj} {xs : BKs} {k : BK}
theorem BookO.at (N : News h₀ L h news) (B : BookO w news o xs) : BookAt w h o xs := by
  obtain ⟨a, es, ep, b, c, d, e⟩ := B
  exact ⟨a, es, ep, b, c, fun x hx => (d x hx).is N, e⟩
theorem getItem_B {y : Value} {Q : Value → Shared → Prop} (hu : A.in1.units < cLine) (N : News h₀ L s.heap news) (hm : (d, o) ∈ news) (B : BookO w news o xs) (hk : KeyIn news k v) (hp : ∃ x ∈ xs, x.1.isP = true) (hy : valAt xs k = some y)
    (h : Q y { s with toks := s.toks + k.draws }) : wpAny (MG w) A (getItem (.ref d) v) Q E s := by
  have ho := (N _ hm).1
  have hT : s.TypeIs (.ref d) "dict" := ⟨o, ho, B.1.1⟩
  unfold getItem
  try with_reducible refine wpAny_holding ?_
  refine wpAny_bind (wpAny_sequenceKey hT (by decide) ?_)
  refine wpAny_bind (wpAny_callSpecial?_slot (name := Str.ofString "__getitem__") hT slot_dict_getitem (wpAny_call_entry slot_dict_getitem hT entry_dict_getitem ?_ (args_dict_getitem _ _)))
  show wpAny _ _ (dictGet d v >>= _) _ _ s
  exact wpAny_bind (bookGet hu (hk.is N) ho (B.at N) (fun _ => hp) hy (wpAny_pure ⟨y, rfl, wpAny_pure h⟩))
theorem item_B {value slice : Expr} {y : Value} {Q : Value → Shared → Prop} (hu : A.in1.units < cLine) (N : News h₀ L s.heap news) (hm : (d, o) ∈ news) (B : BookO w news o xs) (hk : KeyIn news k v) (hp : ∃ x ∈ xs, x.1.isP = true) (hy : valAt xs k = some y)
    (h : ∀ tk, Q y { s with toks := tk }) (hs : subscripted slice false (.ref d) v = operate [.ref d, v] (getItem (.ref d) v)) : wpAny (MG w) A (subscriptTail value slice (.ref d) v) Q E s :=
  have hT : s.TypeIs (.ref d) "dict" := ⟨o, (N _ hm).1, B.1.1⟩
  tail_any hT slot_dict_getitem.lookup (getItem_B hu N hm B hk hp hy (h _)) hs
theorem setItem_B {y : Value} {g : Obj → Led} {Q : Unit → Shared → Prop} (hu : A.in1.units < cLine) (F : Fr h₀ L s.heap m) (N : News h₀ L s.heap news) (U : UpdF d o news g) (B : BookO w news o xs) (hk : KeyIn news k v) (hp : k.isP = false → ∃ x ∈ xs, x.1.isP = true) (hz : xs.length ≤ 1000)
    (hq : ∀ o' h' tk, BookO w (g o') o' (storedB xs k v y) → Fr h₀ L h' m → News h₀ L h' (g o') → Q () { s with heap := h', toks := tk }) : wpAny (MG w) A (setItem (.ref d) v y) Q E s := by
  obtain ⟨pre, post, rfl, hg, o1, o2⟩ := U.split
  have hm : (d, o) ∈ pre ++ (d, o) :: post := List.mem_append.mpr (.inr (.head _))
  have z := N (d, o) hm
  have hT : s.TypeIs (.ref d) "dict" := ⟨o, z.1, B.1.1⟩
  have nt := B.nt
  have up : ∀ o', ∀ p ∈ pre ++ (d, o) :: post, p.2.cls = .type "tuple" → p ∈ g o' := fun o' p hp hc => by
    rw [hg]
    rcases List.mem_append.mp hp with hp | hp
    · exact List.mem_append.mpr (.inl hp)
    rcases List.mem_cons.mp hp with rfl | hp
    · exact absurd hc nt
    · exact List.mem_append.mpr (.inr (.tail _ hp))
  unfold setItem
  try with_reducible refine wpAny_holding ?_
  refine wpAny_bind (wpAny_sequenceKey hT (by decide) ?_)
  refine wpAny_bind (wpAny_callSpecial?_slot (name := Str.ofString "__setitem__") hT slot_dict_setitem (wpAny_call_entry slot_dict_setitem hT entry_dict_setitem ?_ (args_dict_setitem _ _ _)))
  show wpAny _ _ (Builtin.Dict.notOrdered "__setitem__" ⟨[.ref d, v, y], []⟩ >>= _) _ _ s
  refine wpAny_bind (wpAny_notOrdered_dict hT ?_)
  show wpAny _ _ (dictSet d v y >>= _) _ _ s
  refine wpAny_bind (bookSet hu (hk.is N) z.1 (B.at N) hp (by rw [sizeLine_eq]; omega) fun h' o' ho' B' hs' => wpAny_pure ⟨.none, rfl, wpAny_pure (hq o' h' _ ?_ (F.change hs' z.2.1 z.2.2) ?_)⟩)
  · obtain ⟨b1, es, ep, b2, b3, -, b5⟩ := B'
    refine ⟨b1, es, ep, b2, b3, fun x hx => ?_, b5⟩
    have keys : ∀ x ∈ xs, KeyIn (pre ++ (d, o) :: post) x.1 x.2.1 := by obtain ⟨_, _, _, _, _, d, _⟩ := B; exact d
    unfold storedB at hx
    by_cases hv : (valAt xs k).isSome
    · rw [if_pos hv] at hx
      obtain ⟨z, hz, rfl⟩ := List.mem_map.mp hx
      unfold putB
      split <;> exact (keys z hz).up (up o')
    · rw [if_neg hv] at hx
      rcases List.mem_append.mp hx with hx | hx
      · exact (keys x hx).up (up o')
      · rw [List.mem_singleton.mp hx]; exact hk.up (up o')
  · rw [hg]
    exact news_set N o1 o2 hs' ho'
end
end
section
noncomputable def Pl.key : Pl → BK | .n p => .s p.word | .a b i => .p b.word i
theorem at_put {σ : Sg} {y : V} {p r : Pl} (hp : p.Ok) (hr : r.Ok) : (r.key = p.key ∧ (σ.put y p).at r = y) ∨ (r.key ≠ p.key ∧ (σ.put y p).at r = σ.at r) := by
  cases p with
  | n p =>
    cases r with
    | n r => cases p <;> cases r <;> first | exact .inl ⟨rfl, rfl⟩ | exact .inr ⟨(by intro h; injection h with h; revert h; decide), rfl⟩
    | a c j => exact .inr ⟨(fun h => nomatch h), rfl⟩
  | a b i =>
    cases r with
    | n r => exact .inr ⟨(fun h => nomatch h), rfl⟩
    | a c j =>
      have hi : 0 ≤ i ∧ i ≤ 3 := hp
      have hj : 0 ≤ j ∧ j ≤ 3 := hr
      by_cases e : c = b
      · subst e
        by_cases e : j = i
        · subst e
          exact .inl ⟨rfl, (setA_at j.toNat).trans (if_pos rfl)⟩
        · exact .inr ⟨(fun h => by injection h with _ h; exact e h), (setA_at j.toNat).trans (if_neg (by omega))⟩
      · exact .inr ⟨(fun h => by injection h with h _; revert h; cases b <;> cases c <;> first | exact absurd rfl e | decide), setA_ne e j.toNat⟩
structure Says (xs : BKs) (σ : Sg) (lf : Nat) : Prop where
  look : ∀ p : Pl, p.Ok → ∃ v, valAt xs p.key = some v ∧ BV v (σ.at p)
  left : valAt xs (.s "left") = some (.ref lf)
  len : xs.length ≤ 20
  two : ∃ x ∈ xs, x.1.isP = true
theorem Says.put {xs : BKs} {σ : Sg} {lf : Nat} (S : Says xs σ lf) {p : Pl} (hp : p.Ok) {kv v : Value} {y : V} (hv : BV v y) : Says (storedB xs p.key kv v) (σ.put y p) lf := by
  obtain ⟨v0, h0, -⟩ := S.look p hp
  have hs : (valAt xs p.key).isSome := by rw [h0]; rfl
  have e : storedB xs p.key kv v = xs.map (putB p.key v) := if_pos hs
  rw [e]
  refine ⟨fun r hr => ?_, ?_, ?_, ?_⟩
  · rw [valAt_put hs]
    rcases at_put (σ := σ) (y := y) hp hr with ⟨h1, h2⟩ | ⟨h1, h2⟩
    · rw [if_pos h1, h2]; exact ⟨v, rfl, hv⟩
    · rw [if_neg h1, h2]; exact S.look r hr
  · rw [valAt_put hs, if_neg (fun h => ?_)]
    · exact S.left
    · cases p with
      | n p => injection h with h; revert h; cases p <;> decide
      | a b i => exact nomatch h
  · rw [List.length_map]; exact S.len
  · obtain ⟨x, hx, hp⟩ := S.two
    refine ⟨putB p.key v x, List.mem_map.mpr ⟨x, hx, rfl⟩, ?_⟩
    unfold putB
    split <;> exact hp
inductive BookS (w : World) (bk lf : Nat) (σ : Sg) (st : Led) : Prop | mk (o : Obj) (xs : BKs) (a : (bk, o) ∈ st) (b : BookO w st o xs) (c : Says xs σ lf)
structure Bo (w : World) (bk lf : Nat) (σ : Sg) (left : List Int) (st : Led) : Prop where
  book : BookS w bk lf σ st
  left : IntS lf left st
theorem Bo.keep {w : World} {bk lf : Nat} {σ : Sg} {left : List Int} {st n : Led} (B : Bo w bk lf σ left st) (h1 : ∀ p ∈ st, p.1 = bk ∨ p.1 = lf → p ∈ n) (h2 : ∀ p ∈ st, p.2.cls = .type "tuple" → p ∈ n) : Bo w bk lf σ left n := by
  obtain ⟨⟨o, xs, a, b, c⟩, ⟨vs, k, d, e⟩⟩ := B
  exact ⟨⟨o, xs, h1 _ a (.inl rfl), b.up h2, c⟩, ⟨vs, k, h1 _ d (.inr rfl), e⟩⟩
theorem Bo.cons {w : World} {bk lf : Nat} {σ : Sg} {left : List Int} {st : Led} {p : Addr × Obj} (B : Bo w bk lf σ left st) : Bo w bk lf σ left (p :: st) := B.keep (fun _ h _ => .tail _ h) fun _ h _ => .tail _ h
theorem KeepM.trans {Ms : List Nat} {a b c : Led} (x : KeepM Ms a b) (y : KeepM Ms b c) : KeepM Ms a c := ⟨fun p h m => y.1 p (x.1 p h m) m, fun p h m => y.2 p (x.2 p h m) m⟩
theorem KeepM.cons {Ms : List Nat} {a : Led} {p : Addr × Obj} : KeepM Ms a (p :: a) := ⟨fun _ h _ => .tail _ h, fun _ h _ => .tail _ h⟩
theorem KeepM.refl {Ms : List Nat} {a : Led} : KeepM Ms a a := ⟨fun _ h _ => h, fun _ h _ => h⟩
structure LB (w : World) (bk lf : Nat) (σ : Sg) (left : List Int) (st n : Led) : Prop where
  bo : Bo w bk lf σ left n
  keep : KeepM [bk, lf] st n
theorem LB.trans {w : World} {bk lf : Nat} {σ σ' : Sg} {left left' : List Int} {st n n' : Led} (x : LB w bk lf σ left st n) (y : LB w bk lf σ' left' n n') : LB w bk lf σ' left' st n' := ⟨y.bo, x.keep.trans y.keep⟩
theorem LB.cons {w : World} {bk lf : Nat} {σ : Sg} {left : List Int} {st n : Led} {p : Addr × Obj} (x : LB w bk lf σ left st n) : LB w bk lf σ left st (p :: n) := ⟨x.bo.cons, x.keep.trans KeepM.cons⟩
theorem LB.drop {w : World} {bk lf : Nat} {σ : Sg} {left : List Int} {st n : Led} {p : Addr × Obj} (x : LB w bk lf σ left (p :: st) n) : LB w bk lf σ left st n := ⟨x.bo, KeepM.cons.trans x.keep⟩
theorem LB.refl {w : World} {bk lf : Nat} {σ : Sg} {left : List Int} {st : Led} (B : Bo w bk lf σ left st) : LB w bk lf σ left st st := ⟨B, KeepM.refl⟩
theorem LB.tr {w : World} {bk lf : Nat} {σ : Sg} {left : List Int} {st n : Led} {Ms : List Nat} (x : LB w bk lf σ left st n) (hs : bk ∈ Ms ∧ lf ∈ Ms) {τ : T} {v : Value} (h : Tr Ms st τ v) : Tr Ms n τ v := Tr.keep x.keep (fun a ha => by
  rcases List.mem_cons.mp ha with rfl | ha
  · exact hs.1
  · rw [List.mem_singleton.mp ha]; exact hs.2) h
end
section
inductive PB (w : World) (bk lf : Nat) (σ : Sg) (st : Led) (r : Rs) (v : Value) (n : Led) : Prop | mk (y : V) (l' : List Int) (e : r = .ok y l') (L : LB w bk lf σ l' st n) (p : BV v y)
inductive PLx {R : Type} (bad : Str → List Int → R) (w : World) (bk lf : Nat) (σ : Sg) (st : Led) (r : R) (c : Str) (n : Led) : Prop | mk (l' : List Int) (e : r = bad c l') (L : LB w bk lf σ l' st n)
inductive PAL (w : World) (bk lf : Nat) (st : Led) (r : RO) (v : Value) (n : Led) : Prop | mk (σ' : Sg) (l' : List Int) (e : r = .ok σ' l') (L : LB w bk lf σ' l' st n)
inductive PK (w : World) (bk lf : Nat) (σ : Sg) (st : Led) (r : RPl) (v : Value) (n : Led) : Prop | mk (p : Pl) (l' : List Int) (e : r = .ok p l') (L : LB w bk lf σ l' st n) (k : KeyIn n p.key v)
noncomputable def plV (σ : Sg) : RPl → Rs
  | .ok p l => .ok (σ.at p) l
  | .bad c l => .bad c l
theorem ev_pl {σ : Sg} {τ : T} {l : List Int} (h : τ.Tgt) : ev σ τ l = plV σ (pl σ τ l) := by
  cases τ with
  | name p => rfl
  | item b τ =>
    show idx σ b (ev σ τ l) = plV σ (plI b (ev σ τ l))
    cases ev σ τ l with
    | bad c l => rfl
    | ok y l =>
      cases y with
      | txt s => rfl
      | num i =>
        show (if 0 ≤ i ∧ i ≤ 3 then Rs.ok (σ.ar b i.toNat) l else .bad "BS" l) = plV σ (if 0 ≤ i ∧ i ≤ 3 then RPl.ok (.a b i) l else .bad "BS" l)
        split <;> rfl
  | _ => exact h.elim
section
variable {w : World} {A : Around} {E : Value → Shared → Prop} {s : Shared} {h₀ h : Heap} {L : Addr} {m : Str → Option Value} {news st : Led} {bk lf : Nat} {σ : Sg} {left r : List Int}
theorem eq_nil {a b n k : Nat} {Q : Value → Shared → Prop} (hu : A.in1.units < cLine) (N : News h₀ L s.heap news) (ha : (a, listOf #[] n) ∈ news) (hb : (b, listOf #[] k) ∈ news) (h : Q (.bool true) s) : wpAny (MG w) A (compareOp .Eq (.ref a) (.ref b)) Q E s :=
  SeqAt.eq_listAt (e := fun _ => true) ⟨_, (N _ ha).1, rfl, n, rfl⟩ ⟨_, (N _ hb).1, rfl, k, rfl⟩ rfl (Nat.lt_of_succ_lt hu) (fun i hi => absurd hi (Nat.not_lt_zero i)) h
theorem eq_len {a b n k : Nat} {xs ys : Array Value} {Q : Value → Shared → Prop} (hu : A.in1.units < cLine) (N : News h₀ L s.heap news) (ha : (a, listOf xs n) ∈ news) (hb : (b, listOf ys k) ∈ news) (hs : (xs.size != ys.size) = true) (h : Q (.bool false) s) : wpAny (MG w) A (compareOp .Eq (.ref a) (.ref b)) Q E s :=
  SeqAt.eq_list_lengthsAt ⟨_, (N _ ha).1, rfl, n, rfl⟩ ⟨_, (N _ hb).1, rfl, k, rfl⟩ hs (Nat.lt_of_succ_lt hu) h
theorem book_ne {xs : BKs} {o : Obj} {its : Array Value} {n : Nat} (N : News h₀ L h st) (hm : (bk, o) ∈ st) (hB : BookO w st o xs) (hl : (lf, listOf its n) ∈ st) : bk ≠ lf := fun e => by
  have h1 := (N _ hm).1
  have h2 := (N _ hl).1
  dsimp only at h1 h2
  rw [e, h2] at h1
  cases Option.some.inj h1
  obtain ⟨_, es, ep, hd, -⟩ := hB
  cases hd
theorem Bo.pop {its : Array Value} {n k : Nat} {vs : List Value} (N : News h₀ L h st) (B : Bo w bk lf σ left st) (hl : (lf, listOf its n) ∈ st) (hI : IntsAre vs r) : LB w bk lf σ r st ((lf, listOf vs.toArray k) :: off st lf) := by
  obtain ⟨⟨o, xs, a, b, c⟩, -⟩ := B
  have up : ∀ p ∈ st, p.2.cls = .type "tuple" → p ∈ (lf, listOf vs.toArray k) :: off st lf := fun p hp hc => .tail _ (off_mem.mpr ⟨hp, tup_ne N hl list_nt p hp hc⟩)
  exact ⟨⟨⟨o, xs, .tail _ (off_mem.mpr ⟨a, book_ne N a b hl⟩), b.up up, c⟩, ⟨vs, k, .head _, hI⟩⟩, ⟨fun p hp hn => .tail _ (off_mem.mpr ⟨hp, fun e => hn (by rw [e]; simp)⟩), up⟩⟩
end
end
section
noncomputable def T.word : T → Str
  | .name p => p.word
  | .item b _ => b.word
  | _ => ""
theorem BookO.dict {w : World} {st : Led} {o : Obj} {xs : BKs} (B : BookO w st o xs) : ∃ es ep, o.data = .dict es ep := by obtain ⟨_, es, ep, h, _⟩ := B; exact ⟨es, ep, h⟩
theorem dollar_n (p : Nm) : (!(Builtin.Str.occurrences p.word "$" 0 p.word.length 1).isEmpty) = p.isT := by cases p <;> decide +kernel
theorem dollar_a (b : Ar) : (!(Builtin.Str.occurrences b.word "$" 0 b.word.length 1).isEmpty) = b.isT := by cases b <;> decide +kernel
section
variable {w : World} {A : Around} {E : Value → Shared → Prop} {s : Shared} {h₀ h : Heap} {L : Addr} {m : Str → Option Value} {news st : Led} {bk lf : Nat} {σ : Sg} {left r : List Int}
theorem item_tgt {value slice : Expr} {Ms : List Nat} {τ : T} {t : Nat} {tk : Tok} {Q : Value → Shared → Prop} (N : News h₀ L s.heap news) (h : Tr Ms news τ (.ref t)) (hτ : τ.Tgt) (hq : ∀ k, Q (.str τ.word k) s)
    (hs : subscripted slice false (.ref t) (.int 1 tk) = operate [.ref t, .int 1 tk] (getItem (.ref t) (.int 1 tk))) : wpAny (MG w) A (subscriptTail value slice (.ref t) (.int 1 tk)) Q E s := by
  cases τ with
  | name p =>
    obtain ⟨t, k1, k2, e, a⟩ := h
    cases e
    exact item_tupleT (l := [.str "name" k1, .str p.word k2]) (j := 1) ⟨_, (N _ a).1, rfl, _, rfl⟩ (by decide) (by decide) rfl rfl (hq k2) hs
  | item b κ =>
    obtain ⟨t, k1, k2, l, nl, u, e, a, -⟩ := h
    cases e
    exact item_tupleT (l := [.str "item" k1, .str b.word k2, .ref l]) (j := 1) ⟨_, (N _ a).1, rfl, _, rfl⟩ (by decide) (by decide) rfl rfl (hq k2) hs
  | _ => exact hτ.elim
theorem in_dollar {τ : T} (hτ : τ.Tgt) {b : Bool} (hb : τ.isT = b) {t u : Tok} {Q : Value → Shared → Prop} (h : Q (.bool b) s) : wpAny (MG w) A (compareOp .In (.str "$" u) (.str τ.word t)) Q E s := by
  refine in_str ?_
  have e : (!(Builtin.Str.occurrences τ.word "$" 0 τ.word.length 1).isEmpty) = b := by
    subst hb
    cases τ with
    | name p => exact dollar_n p
    | item c κ => exact dollar_a c
    | _ => exact hτ.elim
  rw [e]
  exact h
theorem ne_bool_b {a b c : Bool} {Q : Value → Shared → Prop} (e : (a != b) = c) (h : Q (.bool c) s) : wpAny (MG w) A (compareOp .NotEq (.bool a) (.bool b)) Q E s := ne_bool (by rw [e]; exact h)
theorem Bo.set {own : Led} {xs : BKs} {o o' : Obj} {σ' : Sg} (N : News h₀ L h st) (B : Bo w bk lf σ left st) (hm : (bk, o) ∈ st) (ho : o.cls ≠ .type "tuple") (hd : ∃ es ep, o.data = .dict es ep) (hB : BookO w (own ++ (bk, o') :: off st bk) o' xs) (hS : Says xs σ' lf) :
    LB w bk lf σ' left st (own ++ (bk, o') :: off st bk) := by
  obtain ⟨-, ⟨vs, n, a, b⟩⟩ := B
  have hne : lf ≠ bk := fun e => by
    have h1 := (N _ hm).1
    have h2 := (N _ a).1
    dsimp only at h1 h2
    rw [← e, h2] at h1
    cases Option.some.inj h1
    obtain ⟨es, ep, hd⟩ := hd
    cases hd
  have up : ∀ p ∈ st, p.1 ≠ bk → p ∈ own ++ (bk, o') :: off st bk := fun p hp hn => List.mem_append.mpr (.inr (.tail _ (off_mem.mpr ⟨hp, hn⟩)))
  exact ⟨⟨⟨o', xs, List.mem_append.mpr (.inr (.head _)), hB, hS⟩, ⟨vs, n, up _ a hne, b⟩⟩, ⟨fun p hp hn => up p hp fun e => hn (by rw [e]; simp), fun p hp hc => up p hp (tup_ne N hm ho p hp hc)⟩⟩
end
end
section
open PyProof
inductive MidEnd (h₀ : Heap) (L : Addr) (own news : Led) (M : Str → Option Value) (acc : Str) (s₁ : Shared) (f : Flow) (s₂ : Shared) : Prop | mk (e : f = .next) (h' : Heap) (tk : Nat) (m' : Str → Option Value) (kf : Tok) (e2 : s₂ = { s₁ with heap := h', toks := tk }) (F : Fr h₀ L h' m') (N : News h₀ L h' (own ++ news)) (k : m' "found" = some (.str acc kf)) (r : ∀ y : Str, y ≠ "found" → y ≠ "spot" → y ≠ "at" → y ≠ "sign" → m' y = M y)
section
variable {prog : Program} {w : World} {A : Around} {E : Value → Shared → Prop} {s : Shared} {env : Env} {h₀ : Heap} {news : Led}
noncomputable abbrev loopM (M : Str → Option Value) (F sp a1 s1 : Option Value) : Str → Option Value := fun y => if y = "found" then F else if y = "spot" then sp else if y = "at" then a1 else if y = "sign" then s1 else M y
theorem loopM_eq {M m' : Str → Option Value} (h : ∀ y : Str, y ≠ "found" → y ≠ "spot" → y ≠ "at" → y ≠ "sign" → m' y = M y) : m' = loopM M (m' "found") (m' "spot") (m' "at") (m' "sign") := funext fun y => by
  show m' y = if y = "found" then _ else if y = "spot" then _ else if y = "at" then _ else if y = "sign" then _ else _
  by_cases h1 : y = "found"
  · rw [if_pos h1, h1]
  rw [if_neg h1]
  by_cases h2 : y = "spot"
  · rw [if_pos h2, h2]
  rw [if_neg h2]
  by_cases h3 : y = "at"
  · rw [if_pos h3, h3]
  rw [if_neg h3]
  by_cases h4 : y = "sign"
  · rw [if_pos h4, h4]
  rw [if_neg h4]
  exact h y h1 h2 h3 h4
theorem enum_J {M : Str → Option Value} {old : Str} {e : Value} {body : List Stmt} {Q : Flow → Shared → Prop} (src : PairSrc prog w A E h₀ env ItemKind.str (signs old) e s M news) (acc : Nat → Str) (h0 : ∃ k, M "found" = some (.str (acc 0) k))
    (step : ∀ (i : Nat) c t v kf sp a1 s1 s₁ own, (∃ h tk, s₁ = { s with heap := h, toks := tk }) → old.cps.toList[i]? = some c → (∃ u, v = Value.str ⟨#[c]⟩ u) →
      Fr h₀ env.locals s₁.heap (fun y => if y = "sign" then some v else if y = "at" then some (.int i t) else if y = "found" then some (.str (acc i) kf) else if y = "spot" then sp else if y = "at" then a1 else if y = "sign" then s1 else M y) → News h₀ env.locals s₁.heap (own ++ news) →
      wpAny (model prog w) A (execs body env) (MidEnd h₀ env.locals own news M (acc (i + 1)) s₁) E s₁)
    (done : ∀ h' tk kf sp a1 s1, Fr h₀ env.locals h' (fun y => if y = "found" then some (.str (acc old.length) kf) else if y = "spot" then sp else if y = "at" then a1 else if y = "sign" then s1 else M y) → News h₀ env.locals h' news → Q .next { s with heap := h', toks := tk }) :
    wpAny (model prog w) A (pyIter e) (fun it s₂ => PairAt3 prog w A h₀ env "at" "sign" body Q E it s₂) E s := by
  refine src "at" "sign" body Q (fun i m₁ n₁ => n₁ = news ∧ ∃ kf sp a1 s1, m₁ = loopM M (some (.str (acc i) kf)) sp a1 s1) ?_ ?_ ?_
  · obtain ⟨k, hk⟩ := h0
    refine ⟨rfl, k, M "spot", M "at", M "sign", ?_⟩
    have z := loopM_eq (M := M) (m' := M) fun _ _ _ _ _ => rfl
    rw [hk] at z
    exact z
  · rintro i a t v m₁ n₁ s₁ own hs ha hv ⟨rfl, kf, sp, a1, s1, rfl⟩ _ _ F N
    have hc : ∃ c, old.cps.toList[i]? = some c ∧ a = ⟨#[c]⟩ := by
      unfold signs at ha
      rw [List.getElem?_map] at ha
      cases e : old.cps.toList[i]? with
      | none => rw [e] at ha; cases ha
      | some c => rw [e] at ha; exact ⟨c, rfl, (Option.some.inj ha).symm⟩
    obtain ⟨c, hc, rfl⟩ := hc
    refine wpAny_mono (step i c t v kf sp a1 s1 s₁ own hs hc hv F N) (fun f s₂ h => ?_) fun _ _ e => e
    obtain ⟨rfl, h', tk, m', kf', rfl, F', N', hf, hm⟩ := h
    have z := loopM_eq hm
    rw [hf] at z
    exact ⟨rfl, h', tk, m', _, rfl, F', N', rfl, rfl, kf', _, _, _, z⟩
  · rintro h' tk m' n' F N _ ⟨rfl, kf, sp, a1, s1, rfl⟩
    rw [signs_length] at F
    exact done h' tk kf sp a1 s1 F N
end
noncomputable def accL (old x : Str) (b m : Int) (i : Nat) : Str := ⟨((midC x.cps.toList b m 0 old.cps.toList).take i).toArray⟩
theorem accL_all (old x : Str) (b m : Int) : accL old x b m old.length = midL old x b m := by
  unfold accL midL
  rw [List.take_of_length_le (by rw [midC_len]; exact Nat.le_of_eq (Array.length_toList ..))]
theorem accL_next {old x : Str} {b m : Int} {i c : Nat} (hc : old.cps.toList[i]? = some c) (d : Nat) (hd : d = if (0 ≤ (i : Int) + 1 - b ∧ (i : Int) + 1 - b < x.length) ∧ (i : Int) + 1 - b < m then x.cps.toList.getD ((i : Int) + 1 - b).toNat c else c) : accL old x b m i ++ (⟨#[d]⟩ : Str) = accL old x b m (i + 1) := by
  have z := midC_get x.cps.toList b m old.cps.toList 0 i
  rw [hc] at z
  have lx : x.cps.toList.length = x.length := Array.length_toList
  simp only [Int.zero_add, Option.map_some, lx] at z
  rw [← hd] at z
  show (⟨((midC x.cps.toList b m 0 old.cps.toList).take i).toArray ++ #[d]⟩ : Str) = ⟨((midC x.cps.toList b m 0 old.cps.toList).take (i + 1)).toArray⟩
  rw [List.take_add_one, z]
  simp
theorem accL_len (old x : Str) (b m : Int) (i : Nat) {n : Nat} (h : old.length ≤ n) : (accL old x b m i).length ≤ n := by
  show ((midC x.cps.toList b m 0 old.cps.toList).take i).toArray.size ≤ n
  rw [List.size_toArray, List.length_take, midC_len, Array.length_toList]
  exact Nat.le_trans (Nat.min_le_right ..) h
theorem accL_sign {old x : Str} {b m : Int} {i c : Nat} (hc : old.cps.toList[i]? = some c) (hn : ¬ ((0 ≤ (i : Int) + 1 - b ∧ (i : Int) + 1 - b < x.length) ∧ (i : Int) + 1 - b < m)) : accL old x b m i ++ (⟨#[c]⟩ : Str) = accL old x b m (i + 1) := accL_next hc c (if_neg hn).symm
theorem accL_item {old x : Str} {b m : Int} {i c : Nat} (hc : old.cps.toList[i]? = some c) (h0 : 0 ≤ (i : Int) + 1 - b) (h1 : (i : Int) + 1 - b < x.length) (h2 : (i : Int) + 1 - b < m) : accL old x b m i ++ Txt.item x ((i : Int) + 1 - b) = accL old x b m (i + 1) := by
  have hs : ((i : Int) + 1 - b).toNat < x.cps.size := by
    have : x.cps.size = x.length := rfl
    omega
  rw [item_meets h0 (Array.getElem?_eq_getElem hs)]
  refine accL_next hc _ ?_
  rw [if_pos ⟨⟨h0, h1⟩, h2⟩, List.getD_eq_getElem?_getD, Array.getElem?_toList, Array.getElem?_eq_getElem hs]
  rfl
end
section
noncomputable def Same (st : Led) (v u : Value) : Prop :=
  (∃ x k k', v = .int x k ∧ u = .int x k') ∨ (∃ x k k', v = .str x k ∧ u = .str x k') ∨ ∃ (t t' : Nat) (x : Int) (k1 k2 k3 k4 : Tok), v = .ref t ∧ u = .ref t' ∧ (t, tupOf [.int x k1, .int 0 k2] 0) ∈ st ∧ (t', tupOf [.int x k3, .int 0 k4] 0) ∈ st
noncomputable def Sames (st : Led) : List Value → List Value → Prop
  | [], [] => True
  | v :: vs, u :: us => Same st v u ∧ Sames st vs us
  | _, _ => False
theorem Same.up {st n : Led} {v u : Value} (h : ∀ p ∈ st, p.2.cls = .type "tuple" → p ∈ n) (x : Same st v u) : Same n v u := by
  rcases x with x | x | ⟨t, t', x, k1, k2, k3, k4, a, b, c, d⟩
  · exact .inl x
  · exact .inr (.inl x)
  · exact .inr (.inr ⟨t, t', x, k1, k2, k3, k4, a, b, h _ c rfl, h _ d rfl⟩)
theorem Sames.ints {st : Led} : ∀ {vs us : List Value} {xs : List Int}, IntsAre vs xs → IntsAre us xs → Sames st vs us
  | _, _, _, .nil, .nil => trivial
  | _, _, _, .cons n t a, .cons _ u b => ⟨.inl ⟨n, t, u, rfl, rfl⟩, Sames.ints a b⟩
theorem Sames.len {st : Led} : ∀ {vs us : List Value}, Sames st vs us → vs.length = us.length
  | [], [], _ => rfl
  | _ :: _, _ :: _, h => congrArg (· + 1) h.2.len
  | [], _ :: _, h => h.elim
  | _ :: _, [], h => h.elim
section
variable {w : World} {A : Around} {E : Value → Shared → Prop} {s : Shared} {h₀ h : Heap} {L : Addr} {news st : Led}
theorem Same.eq {v u : Value} (hu : A.in1.units < cLine) (N : News h₀ L s.heap news) (x : Same news v u) : SeqAt.EqAt A s v u true := by
  rcases x with ⟨x, k, k', rfl, rfl⟩ | ⟨x, k, k', rfl, rfl⟩ | ⟨t, t', x, k1, k2, k3, k4, rfl, rfl, c, d⟩
  · have z := SeqAt.EqAt.int_int (A := A) (s := s) x k x k'
    rwa [beq_self_eq_true] at z
  · have z := SeqAt.EqAt.str_str (A := A) (s := s) x k x k'
    rwa [beq_self_eq_true] at z
  · by_cases e : t = t'
    · subst e; exact SeqAt.EqAt.same _
    · refine SeqAt.EqAt.of_refs e ?_
      have z := SeqAt.RcAt.tuples (A := A) (s := s) (items := #[.int x k1, .int 0 k2]) (items2 := #[.int x k3, .int 0 k4]) (e := fun _ => true) (l := t) (b := t') ⟨_, (N _ c).1, rfl, 0, rfl⟩ ⟨_, (N _ d).1, rfl, 0, rfl⟩ (Nat.lt_of_succ_lt hu) fun j h1 h2 => by
        have hj : j = 0 ∨ j = 1 := by have : j < 2 := h1; omega
        rcases hj with rfl | rfl
        · have z := SeqAt.EqAt.int_int (A := A.in1) (s := s) x k1 x k3
          rwa [beq_self_eq_true] at z
        · exact SeqAt.EqAt.int_int (A := A.in1) (s := s) 0 k2 0 k4
      exact z
theorem Sames.get (hu : A.in1.units < cLine) (N : News h₀ L s.heap news) : ∀ {vs us : List Value}, Sames news vs us → ∀ j (h1 : j < vs.length) (h2 : j < us.length), SeqAt.EqAt A s vs[j] us[j] true
  | _ :: _, _ :: _, h, 0, _, _ => h.1.eq hu N
  | _ :: _, _ :: _, h, j + 1, h1, h2 => Sames.get hu N h.2 j (by simpa using h1) (by simpa using h2)
  | [], _, _, _, h1, _ => absurd h1 (Nat.not_lt_zero _)
  | _ :: _, [], h, _, _, _ => h.elim
theorem all_true (n : Nat) : (List.range n).all (fun _ => true) = true := by simp
theorem eq_same {a b n k : Nat} {vs us : List Value} {Q : Value → Shared → Prop} (hu : A.in1.in1.units < cLine) (N : News h₀ L s.heap news) (ha : (a, listOf vs.toArray n) ∈ news) (hb : (b, listOf us.toArray k) ∈ news) (hS : Sames news vs us) (h : Q (.bool true) s) : wpAny (MG w) A (compareOp .Eq (.ref a) (.ref b)) Q E s := by
  refine SeqAt.eq_listAt (e := fun _ => true) ⟨_, (N _ ha).1, rfl, n, rfl⟩ ⟨_, (N _ hb).1, rfl, k, rfl⟩ (by simpa using hS.len) (Nat.lt_of_succ_lt (Nat.lt_of_succ_lt hu)) (fun j h1 h2 => ?_) (by rw [all_true]; exact h)
  have z := Sames.get (A := A.in1) hu N hS j (by simpa using h1) (by simpa using h2)
  simpa using z
theorem ne_same {a b n k : Nat} {vs us : List Value} {Q : Value → Shared → Prop} (hu : A.in1.in1.units < cLine) (N : News h₀ L s.heap news) (ha : (a, listOf vs.toArray n) ∈ news) (hb : (b, listOf us.toArray k) ∈ news) (hS : Sames news vs us) (h : Q (.bool false) s) : wpAny (MG w) A (compareOp .NotEq (.ref a) (.ref b)) Q E s := by
  show wpAny _ A (richCompare .NotEq _ _) Q E s
  refine SeqAt.RcNeAt.lists (e := fun _ => true) ⟨_, (N _ ha).1, rfl, n, rfl⟩ ⟨_, (N _ hb).1, rfl, k, rfl⟩ (by simpa using hS.len) (Nat.lt_of_succ_lt (Nat.lt_of_succ_lt hu)) (fun j h1 h2 => ?_) PG w E Q (by rw [all_true]; exact h)
  have z := Sames.get (A := A.in1) hu N hS j (by simpa using h1) (by simpa using h2)
  simpa using z
end
end
section
inductive TapeAt (tp l2 : Nat) (c : Int) (st : Led) : Prop | mk (kc : Tok) (n : Nat) (a : (tp, listOf #[.int c kc, .ref l2] n) ∈ st)
inductive ListAt (l2 : Nat) (st : Led) : Prop | mk (vs : List Value) (xs : List Int) (n : Nat) (a : (l2, listOf vs.toArray n) ∈ st) (i : IntsAre vs xs) (z : vs.length ≤ 100)
structure Tp (tp l2 : Nat) (c : Int) (st : Led) : Prop where
  tape : TapeAt tp l2 c st
  list : ListAt l2 st
  ne : l2 ≠ tp
  nn : 0 ≤ c
noncomputable def Has (Ms : List Nat) (st : Led) : Prop := ∀ a ∈ Ms, ∃ o, (a, o) ∈ st
theorem Has.new {Ms : List Nat} {st : Led} {D : Nat} (H : Has Ms st) (h : ∀ p ∈ st, p.1 ≠ D) : D ∉ Ms := fun hm => by
  obtain ⟨o, ho⟩ := H D hm
  exact h _ ho rfl
theorem Has.lt {Ms : List Nat} {st : Led} {D : Nat} (H : Has Ms st) (h : AllLt D st) : D ∉ Ms := H.new fun p hp => Nat.ne_of_lt (ktn_ltOf h p hp)
theorem Has.up {Ms : List Nat} {st n : Led} (H : Has Ms st) (h : ∀ p ∈ st, ∃ o, (p.1, o) ∈ n) : Has Ms n := fun a ha => let ⟨o, ho⟩ := H a ha; h (a, o) ho
structure TL (tp l2 : Nat) (c : Int) (st n : Led) : Prop where
  tap : Tp tp l2 c n
  keep : KeepM [tp] st n
inductive GotX (m1 : Int) (tp l2 : Nat) (c : Int) (st : Led) : Value → Led → Prop | mk {n : Led} (x : Int) (k : Tok) (h0 : 0 ≤ x) (h1 : x < m1) (L : TL tp l2 c st n) : GotX m1 tp l2 c st (.int x k) n
inductive GotT (Z : Led → Value → Prop) (tp l2 : Nat) (b : Int) (st : Led) (v : Value) (n : Led) : Prop | mk (c' : Int) (z : Z n v) (h : c' ≤ b) (L : TL tp l2 c' st n)
theorem Tp.cons {tp l2 : Nat} {c : Int} {st : Led} {p : Addr × Obj} (T : Tp tp l2 c st) : Tp tp l2 c (p :: st) := by
  obtain ⟨⟨kc, n, a⟩, ⟨vs, xs, k, b, d, d2⟩, e, f⟩ := T; exact ⟨⟨kc, n, .tail _ a⟩, ⟨vs, xs, k, .tail _ b, d, d2⟩, e, f⟩
theorem TL.trans {tp l2 : Nat} {c c' : Int} {st n n' : Led} (x : TL tp l2 c st n) (y : TL tp l2 c' n n') : TL tp l2 c' st n' := ⟨y.tap, x.keep.trans y.keep⟩
theorem TL.cons {tp l2 : Nat} {c : Int} {st n : Led} {p : Addr × Obj} (x : TL tp l2 c st n) : TL tp l2 c st (p :: n) := ⟨x.tap.cons, x.keep.trans KeepM.cons⟩
theorem TL.drop {tp l2 : Nat} {c : Int} {st n : Led} {p : Addr × Obj} (x : TL tp l2 c (p :: st) n) : TL tp l2 c st n := ⟨x.tap, KeepM.cons.trans x.keep⟩
theorem TL.has {tp l2 : Nat} {c : Int} {st n : Led} {Ms : List Nat} (x : TL tp l2 c st n) (H : Has Ms st) : Has Ms n := H.up fun p hp => by
  by_cases e : p.1 = tp
  · obtain ⟨kc, k, a⟩ := x.tap.tape
    exact ⟨_, by rw [e]; exact a⟩
  · exact ⟨p.2, x.keep.1 p hp (by simpa using e)⟩
theorem TL.tr {tp l2 : Nat} {c : Int} {st n : Led} {Ms : List Nat} (x : TL tp l2 c st n) (hs : tp ∈ Ms) {τ : T} {v : Value} (h : Tr Ms st τ v) : Tr Ms n τ v := Tr.keep x.keep (fun a ha => by rw [List.mem_singleton.mp ha]; exact hs) h
section
variable {w : World} {A : Around} {E : Value → Shared → Prop} {s : Shared} {h₀ h : Heap} {L : Addr} {news st : Led}
theorem item_ints {value slice : Expr} {a n : Nat} {vs : List Value} {xs : List Int} {i : Int} {t : Tok} {Q : Value → Shared → Prop} (N : News h₀ L s.heap news) (hm : (a, listOf vs.toArray n) ∈ news) (hI : IntsAre vs xs) (h0 : 0 ≤ i) (hi : i < vs.length) (hl : vs.length ≤ 100) (h : ∀ x k, Q (.int x k) s)
    (hs : subscripted slice false (.ref a) (.int i t) = operate [.ref a, .int i t] (getItem (.ref a) (.int i t))) : wpAny (MG w) A (subscriptTail value slice (.ref a) (.int i t)) Q E s := by
  have hL : s.heap.IsList a vs.toArray := ⟨_, (N _ hm).1, rfl, n, rfl⟩
  have hb : i.toNat < vs.length := by omega
  obtain ⟨x, k, e⟩ : ∃ x k, vs[i.toNat] = .int x k := by
    clear hL hm h hs N hi hl h0
    generalize i.toNat = j at hb
    induction hI generalizing j with
    | nil => cases hb
    | cons _ _ _ ih =>
      cases j with
      | zero => exact ⟨_, _, rfl⟩
      | succ j => exact ih j (by simpa using hb)
  exact tail_any hL.typeIs slot_list_getitem.lookup (wpAny_getItem_list hL h0 (by omega) (x := vs[i.toNat]) (by rw [List.getElem?_toArray]; exact List.getElem?_eq_getElem hb) (by rw [e]; exact h x k)) hs
theorem mod_lt {x m : Int} (h : 0 < m) : 0 ≤ x.fmod m ∧ x.fmod m < m := by
  rw [Int.fmod_eq_emod_of_nonneg _ (by omega)]
  exact ⟨Int.emod_nonneg _ (by omega), Int.emod_lt_of_pos _ h⟩
theorem Tp.next {tp l2 : Nat} {c c' : Int} {kc : Tok} {n : Nat} (N : News h₀ L h st) (T : Tp tp l2 c st) (hm : (tp, listOf #[.int c kc, .ref l2] n) ∈ st) (k' : Tok) (n' : Nat) (h0 : 0 ≤ c') : TL tp l2 c' st ((tp, listOf #[.int c' k', .ref l2] n') :: off st tp) := by
  obtain ⟨-, ⟨vs, xs, k, b, d, d2⟩, e, -⟩ := T
  exact ⟨⟨⟨k', n', .head _⟩, ⟨vs, xs, k, .tail _ (off_mem.mpr ⟨b, e⟩), d, d2⟩, e, h0⟩, ⟨fun p hp hn => .tail _ (off_mem.mpr ⟨hp, fun e => hn (by rw [e]; simp)⟩), fun p hp hc => .tail _ (off_mem.mpr ⟨hp, tup_ne N hm list_nt p hp hc⟩)⟩⟩
inductive TrN (Ms : List Nat) (st : Led) (v : Value) : Prop | mk (τ : T) (h : Tr Ms st τ v) (o : τ.Ok) (n : τ.numb)
theorem item_five {value slice : Expr} {Ms : List Nat} {a n : Nat} {v1 v2 v3 v4 v5 : Value} {i : Int} {t : Tok} {Q : Value → Shared → Prop} (N : News h₀ L s.heap news) (hm : (a, listOf #[.none, v1, v2, v3, v4, v5] n) ∈ news) (hi : 1 ≤ i ∧ i ≤ 5)
    (h1 : TrN Ms news v1) (h2 : TrN Ms news v2) (h3 : TrN Ms news v3) (h4 : TrN Ms news v4) (h5 : TrN Ms news v5) (h : ∀ v, TrN Ms news v → Q v s)
    (hs : subscripted slice false (.ref a) (.int i t) = operate [.ref a, .int i t] (getItem (.ref a) (.int i t))) : wpAny (MG w) A (subscriptTail value slice (.ref a) (.int i t)) Q E s := by
  have hL : s.heap.IsList a #[.none, v1, v2, v3, v4, v5] := ⟨_, (N _ hm).1, rfl, n, rfl⟩
  obtain ⟨v, e, hv⟩ : ∃ v, (#[.none, v1, v2, v3, v4, v5] : Array Value)[i.toNat]? = some v ∧ TrN Ms news v := by
    have z : i = 1 ∨ i = 2 ∨ i = 3 ∨ i = 4 ∨ i = 5 := by omega
    rcases z with rfl | rfl | rfl | rfl | rfl
    · exact ⟨v1, rfl, h1⟩
    · exact ⟨v2, rfl, h2⟩
    · exact ⟨v3, rfl, h3⟩
    · exact ⟨v4, rfl, h4⟩
    · exact ⟨v5, rfl, h5⟩
  exact tail_any hL.typeIs slot_list_getitem.lookup (wpAny_getItem_list hL (by omega) (by omega) e (h v hv)) hs
end
theorem TrN.up {Ms : List Nat} {st n : Led} {v : Value} (h : ∀ p ∈ st, p ∈ n) (x : TrN Ms st v) : TrN Ms n v := by obtain ⟨τ, a, b, c⟩ := x; exact ⟨τ, Tr.keep (Ns := Ms) ⟨fun p hp _ => h p hp, fun p hp _ => h p hp⟩ (fun _ h => h) a, b, c⟩
theorem TL.trn {tp l2 : Nat} {c : Int} {st n : Led} {Ms : List Nat} (x : TL tp l2 c st n) (hs : tp ∈ Ms) {v : Value} (h : TrN Ms st v) : TrN Ms n v := by obtain ⟨τ, a, b, c⟩ := h; exact ⟨τ, x.tr hs a, b, c⟩
theorem Has.cons {Ms : List Nat} {st : Led} {p : Addr × Obj} (H : Has Ms st) : Has Ms (p :: st) := H.up fun q hq => ⟨q.2, .tail _ hq⟩
end
section
noncomputable abbrev sgS (b : Bool) : Str := if b then "$" else ""
inductive TgtN (Ms : List Nat) (b : Bool) (st : Led) (v : Value) : Prop | mk (τ : T) (h : Tr Ms st τ v) (t : τ.Tgt) (e : τ.isT = b)
inductive Ord | swap (τ υ : T) | mid (τ φ : T) (μ : Option T) (υ : T)
noncomputable def Ord.does (σ : Sg) (l : List Int) : Ord → RO
  | .swap τ υ => swapS σ τ υ l
  | .mid τ φ μ υ => midS σ τ φ μ υ l
noncomputable def ManyIs (Ms : List Nat) (st : Led) : Option T → Value → Prop
  | none, v => v = .none
  | some μ, v => Tr Ms st μ v
inductive OrdS (Ms : List Nat) (st : Led) (τ υ : T) (v : Value) : Prop | mk (t : Nat) (k0 : Tok) (t1 t2 : Nat) (e : v = .ref t) (ht : (t, tupOf [.str "SWAP" k0, .ref t1, .ref t2] 0) ∈ st) (h1 : Tr Ms st τ (.ref t1)) (h2 : Tr Ms st υ (.ref t2))
inductive OrdM (Ms : List Nat) (st : Led) (τ φ : T) (μ : Option T) (υ : T) (v : Value) : Prop | mk (t : Nat) (k0 : Tok) (tg tf tt : Nat) (vm : Value) (e : v = .ref t) (ht : (t, tupOf [.str "MIDSET" k0, .ref tg, .ref tf, vm, .ref tt] 0) ∈ st) (h1 : Tr Ms st τ (.ref tg)) (h2 : Tr Ms st φ (.ref tf)) (h3 : Tr Ms st υ (.ref tt)) (hm : ManyIs Ms st μ vm)
noncomputable def OrdIs (Ms : List Nat) (st : Led) : Ord → Value → Prop
  | .swap τ υ, v => OrdS Ms st τ υ v
  | .mid τ φ μ υ, v => OrdM Ms st τ φ μ υ v
noncomputable def Ord.Ok : Ord → Prop
  | .swap τ υ => τ.Tgt ∧ υ.Tgt
  | .mid τ φ μ υ => τ.Tgt ∧ τ.isT = true ∧ φ.Ok ∧ φ.numb ∧ (∀ m, μ = some m → m.Ok ∧ m.numb) ∧ υ.Ok ∧ υ.short
inductive OrdN (Ms : List Nat) (st : Led) (v : Value) : Prop | mk (ω : Ord) (h : OrdIs Ms st ω v) (o : ω.Ok)
noncomputable def ManyN (Ms : List Nat) (st : Led) (v : Value) : Prop := v = .none ∨ TrN Ms st v
inductive WordN (Ms : List Nat) (st : Led) (v : Value) : Prop | mk (υ : T) (h : Tr Ms st υ v) (o : υ.Ok) (s : υ.short)
section
variable {w : World} {A : Around} {E : Value → Shared → Prop} {s : Shared} {h₀ h : Heap} {L : Addr} {news st : Led}
theorem item_P {value slice : Expr} {a n k : Nat} {its : List Value} {P : Value → Prop} {i : Int} {t : Tok} {Q : Value → Shared → Prop} (N : News h₀ L s.heap news) (hm : (a, listOf its.toArray n) ∈ news) (hP : ∀ v ∈ its, P v) (hk : its.length = k) (h0 : 0 ≤ i) (hi : i < k) (hl : k ≤ 10)
    (h : ∀ v, P v → Q v s) (hs : subscripted slice false (.ref a) (.int i t) = operate [.ref a, .int i t] (getItem (.ref a) (.int i t))) : wpAny (MG w) A (subscriptTail value slice (.ref a) (.int i t)) Q E s := by
  have hL : s.heap.IsList a its.toArray := ⟨_, (N _ hm).1, rfl, n, rfl⟩
  have hb : i.toNat < its.length := by omega
  exact tail_any hL.typeIs slot_list_getitem.lookup (wpAny_getItem_list hL h0 (by omega) (x := its[i.toNat]) (by rw [List.getElem?_toArray]; exact List.getElem?_eq_getElem hb) (h _ (hP _ (List.getElem_mem hb)))) hs
theorem item_signs {value slice : Expr} {a n : Nat} {t0 t1 t2 t4 : Nat} {i : Int} {t : Tok} {k1 k2 k3 k4 k5 k6 k7 k8 : Tok} {Q : Value → Shared → Prop} (N : News h₀ L s.heap news) (hm : (a, listOf #[.ref t0, .ref t1, .ref t2, .none, .ref t4] n) ∈ news)
    (m0 : (t0, tupOf [.str "$" k1, .str "$" k2] 0) ∈ news) (m1 : (t1, tupOf [.str "" k3, .str "" k4] 0) ∈ news) (m2 : (t2, tupOf [.str "" k5, .str "$" k6] 0) ∈ news) (m4 : (t4, tupOf [.str "" k7, .str "" k8] 0) ∈ news) (hi : 0 ≤ i ∧ i ≤ 4 ∧ i ≠ 3)
    (h : ∀ (r : Nat) (a b : Bool) (k k' : Tok), (r, tupOf [.str (sgS a) k, .str (sgS b) k'] 0) ∈ news → Q (.ref r) s) (hs : subscripted slice false (.ref a) (.int i t) = operate [.ref a, .int i t] (getItem (.ref a) (.int i t))) : wpAny (MG w) A (subscriptTail value slice (.ref a) (.int i t)) Q E s := by
  have hL : s.heap.IsList a #[.ref t0, .ref t1, .ref t2, .none, .ref t4] := ⟨_, (N _ hm).1, rfl, n, rfl⟩
  obtain ⟨v, e, hv⟩ : ∃ v, (#[.ref t0, .ref t1, .ref t2, .none, .ref t4] : Array Value)[i.toNat]? = some v ∧ Q v s := by
    have z : i = 0 ∨ i = 1 ∨ i = 2 ∨ i = 4 := by omega
    rcases z with rfl | rfl | rfl | rfl
    · exact ⟨_, rfl, h t0 true true _ _ m0⟩
    · exact ⟨_, rfl, h t1 false false _ _ m1⟩
    · exact ⟨_, rfl, h t2 false true _ _ m2⟩
    · exact ⟨_, rfl, h t4 false false _ _ m4⟩
  exact tail_any hL.typeIs slot_list_getitem.lookup (wpAny_getItem_list hL (by omega) (by omega) e hv) hs
end
theorem notTp {Ms : List Nat} {st : Led} {tp D : Nat} (H : Has Ms st) (hMs : tp ∈ Ms) (h : AllLt D st) : D ∉ [tp] := fun e => H.lt h (by rw [List.mem_singleton.mp e]; exact hMs)
theorem TL.keepTr {tp l2 : Nat} {c : Int} {st n : Led} {Ms : List Nat} (x : TL tp l2 c st n) (hs : tp ∈ Ms) : (∀ {b v}, TgtN Ms b st v → TgtN Ms b n v) ∧ (∀ {v}, ManyN Ms st v → ManyN Ms n v) ∧ ∀ {v}, WordN Ms st v → WordN Ms n v :=
  ⟨fun h => by obtain ⟨τ, a, b, c⟩ := h; exact ⟨τ, x.tr hs a, b, c⟩, fun h => h.imp id (x.trn hs), fun h => by obtain ⟨τ, a, b, c⟩ := h; exact ⟨τ, x.tr hs a, b, c⟩⟩
theorem ManyN.up {Ms : List Nat} {st n : Led} {v : Value} (h : ∀ p ∈ st, p ∈ n) (x : ManyN Ms st v) : ManyN Ms n v := x.imp id (TrN.up h)
theorem mid_ord {Ms : List Nat} {n : Led} {t : Nat} {k0 : Tok} {tg tf tt : Nat} {vm : Value} {τ φ υ : T} (h : (t, tupOf [.str "MIDSET" k0, .ref tg, .ref tf, vm, .ref tt] 0) ∈ n) (h1 : Tr Ms n τ (.ref tg)) (h2 : Tr Ms n φ (.ref tf)) (h3 : Tr Ms n υ (.ref tt)) (hm : ManyN Ms n vm)
    (ok : τ.Tgt ∧ τ.isT = true ∧ φ.Ok ∧ φ.numb ∧ υ.Ok ∧ υ.short) : OrdN Ms n (.ref t) := by
  obtain ⟨o1, o2, o3, o4, o5, o6⟩ := ok
  rcases hm with rfl | ⟨μ, hμ, m1, m2⟩
  · exact ⟨.mid τ φ none υ, ⟨t, k0, tg, tf, tt, .none, rfl, h, h1, h2, h3, rfl⟩, o1, o2, o3, o4, fun m e => (by cases e), o5, o6⟩
  · exact ⟨.mid τ φ (some μ) υ, ⟨t, k0, tg, tf, tt, vm, rfl, h, h1, h2, h3, hμ⟩, o1, o2, o3, o4, fun m e => (by cases e; exact ⟨m1, m2⟩), o5, o6⟩
end
set_option hygiene false
local macro_rules | `(tactic| k_room) => `(tactic| ktr_room)
local macro_rules | `(tactic| k_units) => `(tactic| ktr_units)
local macro_rules | `(tactic| walk_at "exec Raise some none") => `(tactic| (k_here; k_dflt (refine exec_raise_Z (by rfl) ?_)))
local macro_rules | `(tactic| walk_at "leaving ref") => `(tactic| (k_here; k_dflt (first | (apply leaveZ_new; k_asm; rfl; rfl; rfl; k_asm; k_asm; assumption; k_whole; intro hz9 Rz9 Uz9; (try dsimp only)) | (apply leaveZ_on; rfl; rfl; assumption; assumption; assumption; k_whole; intro hz9 Rz9 Uz9; (try dsimp only)) | k_extra "leave")))
local macro_rules | `(tactic| walk_at "getMethod ref") => `(tactic| (k_here; (with_reducible show wpAny _ _ (getMethod (Value.ref _) (PySem.Str.ofString "get") _) _ _ _); k_dflt (apply method_getL; k_asm; k_mem; (first | exact trivial | assumption))))
local macro_rules | `(tactic| walk_at "compareOp In str ref") => `(tactic| (k_here; k_dflt (apply in_L; k_asm; k_asm; k_mem; (first | exact trivial | assumption); (first | assumption | exact rfl); k_whole; try dsimp only [Option.isSome])))
local macro_rules | `(tactic| walk_at "subscriptTail") => `(tactic| (k_here; (with_reducible show wpAny _ _ (subscriptTail _ _ (Value.ref _) (Value.str _ _)) _ _ _); k_dflt (apply item_L; k_asm; k_mem; (first | exact trivial | assumption); (first | assumption | exact rfl); k_whole)))
local macro_rules | `(tactic| walk_at "getAttr ref") => `(tactic| (k_here; k_dflt (apply get_own; k_asm; k_asm; (case I => k_inst); k_is; k_is; k_is; k_is; assumption; k_handed; k_whole)))
local macro_rules | `(tactic| walk_at "getMethod ref") => `(tactic| (k_here; k_dflt (apply method_inst; k_asm; k_asm; (case I => k_inst); k_is; k_is; k_is; assumption; k_whole)))
local macro_rules | `(tactic| walk_at "m9") => `(tactic| first | assumption | exact mem9 0 rfl | exact mem9 1 rfl | exact mem9 2 rfl | exact mem9 3 rfl | exact mem9 4 rfl | exact mem9 5 rfl | exact mem9 6 rfl | exact mem9 7 rfl | exact mem9 8 rfl | k_mem)
local macro_rules | `(tactic| k_mem) => `(tactic| assumption)
local macro_rules | `(tactic| walk_at "eval Constant int") => `(tactic| (k_here; k_dflt (refine tk_int ?_); intro tz9 tkz9))
local macro_rules | `(tactic| walk_at "eval Constant str") => `(tactic| (k_here; k_dflt (refine tk_str ?_); intro tz9 tkz9))
local macro_rules | `(tactic| walk_at "newTuple") => `(tactic| (k_here; kup_bare; k_dflt (refine' tl_tup ?A9 ?B9 ?C9 ?_; (case A9 => k_asm); (case B9 => k_asm); (case C9 => kmk_size)); intro Dz9 hz9 nz9 Fz9 Nz9 lz9; (try k_lt lz9); (try k_sweep)))
local macro_rules | `(tactic| walk_at "newList") => `(tactic| (k_here; k_dflt (refine' tl_list ?A9 ?B9 ?C9 ?_; (case A9 => k_asm); (case B9 => k_asm); (case C9 => first | exact Nat.le_of_ble_eq_true rfl | size_fits); k_whole); intro Dz9 hz9 nz9 Fz9 Nz9 lz9; (try k_lt lz9); (try k_sweep)))
local macro_rules | `(tactic| walk_at "storeName") => `(tactic| (k_here; k_dflt (refine' tl_store ?A9 ?B9 ?C9 ?D9 ?_; (case A9 => k_asm); (case B9 => k_asm); (case C9 => rfl); (case D9 => rfl); k_whole; intro mz9 hz9 tkz9 Fz9 Nz9; (try k_sweep))))
local macro_rules | `(tactic| walk_at "eval Name") => `(tactic| (k_here; k_dflt (first | (refine' tl_name ?A9 ?B9 ?C9 ?_; (case A9 => k_asm); (case C9 => exact rfl); (case B9 => exact @rfl _ (some _)); k_whole) | (refine' nameX_K ?A9 ?B9 ?C9 ?D9 ?_ ?E9 ?G9; (case A9 | B9 | C9 => k_asm); (case E9 | G9 => rfl); (case D9 => k_is); k_whole) | (refine' nameX_B ?A9 ?B9 ?C9 ?D9 ?H9 ?I9 ?_ ?E9 ?G9; (case A9 | B9 | C9 => k_asm); (case E9 | G9 => rfl); (case D9 => k_is); (case H9 => boot_fast); (case I9 => decide); k_whole))))
local macro_rules | `(tactic| k_lt $h:ident) => `(tactic| (have lzz9 := $h; replace $h := allLt_of $h; try dsimp only [AllLt] at $h:ident))
local macro_rules | `(tactic| k_ne) => `(tactic| (refine neN ?_; (try dsimp only); first | (apply ne_gt; assumption; k_mem) | (apply ne_lt; assumption; k_mem) | omega))
local macro_rules | `(tactic| ktr_room) => `(tactic| first | exact hd_lt (by assumption) | (apply hd_le; assumption; rfl))
local macro_rules | `(tactic| ktr_units) => `(tactic| first | (apply hu_s2; assumption; rfl) | (apply hu_s3; assumption; rfl) | (apply hu_s1; assumption; rfl))
local macro_rules | `(tactic| walk_at "isTrue Compare") => `(tactic| (k_here; k_dflt (apply test_eq; k_asm; rfl; exact @rfl _ (some (Value.str _ _)); (first | (show _ = false; decide) | (show _ = true; decide)); k_whole); intro tkz9))
local macro_rules | `(tactic| walk_at "q9") => `(tactic| first | assumption | exact q_up1 rfl | exact q_up2 rfl | (apply q_le0; assumption; rfl) | (apply q_le1; assumption; rfl) | exact Nat.le_refl _ | exact Nat.le_add_right _ 1 | exact Nat.le_add_right _ 2 | exact Nat.le_add_right _ 3 | exact Nat.le_add_right _ 4 | exact Nat.le_add_right _ 5 | exact Nat.le_add_right _ 6 | exact Nat.le_add_right _ 7 | omega)
local macro_rules | `(tactic| walk_at "spliced") => `(tactic| (k_here; k_dflt (refine' args_locs ?Fz9 ?kz9 ?vz9 ?_; (case Fz9 => k_asm); (case kz9 => rfl); (case vz9 => first | exact @rfl _ (some [_]) | exact @rfl _ (some [_, _]) | exact @rfl _ (some [_, _, _]) | exact @rfl _ (some [_, _, _, _])); k_whole; (try dsimp only [List.cons_append, List.nil_append]))))
local macro_rules | `(tactic| walk1) => `(tactic| (fail_if_success (goal_lacks PySem.Shared.gens)); refine' tk_st ?e9z ?_; (case e9z => (dsimp only; exact st9)); intro tkz9)
local macro_rules | `(tactic| walk_at "execs cons") => `(tactic| (k_here; refine tl_cons ?_; intro qz9))
local macro_rules | `(tactic| walk1) => `(tactic| ((fail_if_success (fail_if_success k_fold)); (with_reducible show wpAny _ _ (eval _ _) _ _ _); (fail_if_success (with_reducible first | show wpAny _ _ (eval (Expr.Name _ _) _) _ _ _ | show wpAny _ _ (eval (Expr.Constant _ _ _) _) _ _ _ | show wpAny _ _ (eval (Expr.Attribute _ _ _) _) _ _ _ | show wpAny _ _ (eval (Expr.ListComp _ _ _ _) _) _ _ _)); refine' let_Q ?_; intro qz9))
local macro_rules | `(tactic| walk1) => `(tactic| ((fail_if_success (goal_lacks PySem.Expr.Slice)); (with_reducible show wpAny _ _ (subscriptTail _ (Expr.Slice _ _ _ _) _ (Value.ref _)) _ _ _); dsimp only))
local macro_rules | `(tactic| walk1) => `(tactic| ((fail_if_success (goal_lacks PySem.Around.deeper)); (with_reducible show wpAny _ (Around.deeper _ _) (execs _ _) _ _ _); refine' let_all ?_; intro qkz9 ekz9 Az9 envz9; (try ((with_reducible rename Fr _ _ _ (fun _ => _) => Fq9); refine' let_m Fq9 ?_; clear Fq9; intro mz9 Fq9))))
local macro_rules | `(tactic| k_enter) => `(tactic| ktr_enter)
local macro_rules | `(tactic| k_steps) => `(tactic| repeat' (first | (k_end; with_reducible first | refine' seq_next ?_ | refine' seq_ret ?_ | refine' seq_brk ?_ | refine' seq_cont ?_) | (k_unfold; (try dsimp only)) | (k_end; kc_close) | walk1 | (dsimp only; walk1) | (refine' stripA ?_; k_unfold; (try dsimp only)) | (leave1; (try dsimp only))))
local macro_rules | `(tactic| ktr_enter) => `(tactic| ((first | (with_reducible apply tl_enterT; (first | assumption | exact rfl)) | (apply tl_enter; exact rfl; exact rfl; (first | assumption | exact rfl))); k_asm; k_asm; k_asm; k_asm; k_asm; k_is; k_is; (first | ktr_room | (apply room9 2; assumption; rfl; rfl) | (apply room9 3; assumption; rfl; rfl)); exact BindsTo.of_eq rfl; exact locs rfl; exact rfl; exact rfl; exact rfl; decide; k_whole; intro gz9 Lz9 hz9 tkz9 mz9 envz9 Az9 qkz9 ekz9 FGz9 Fz9 Nz9 Bz9 Xz9 Tz9))
local macro_rules | `(tactic| walk_at "subscriptTail Name Constant ref int") => `(tactic| (k_here; k_dflt (refine' item_tupleT ?A9 ?B9 ?C9 ?D9 ?E9 ?_; (case A9 => exact News.isTup (by k_asm) (by walk_at "m9")); (case B9 | C9 => decide); (case D9 | E9 => rfl); k_whole)))
local macro_rules | `(tactic| walk_at "h9") => `(tactic| first | exact hd_ok hd rfl | exact hd_o2 hd rfl | exact hu_ok hu rfl | exact hu_o2 hu rfl | omega)
local macro_rules | `(tactic| walk_at "u9") => `(tactic| first | k_asm | rfl)
local macro_rules | `(tactic| walk_at $s:str) => `(tactic| k_dflt (k_extra $s))
set_option hygiene true
theorem s_kon_I (w : World) (news : Led) (a : Nat) (k : Tok) (ha : (a, dictOf [] 0) ∈ news) : Spec w 79 [.str "I" k, .ref a] 1 news (GotS news "decimal") (fun _ _ => False) := by
  k_with_none
  k_with "call builtin:dict.get" => (k_here; (with_reducible show wpAny _ _ (call (Value.builtin _) [Value.ref _, Value.str _ _, _]) _ _ _); k_dflt (refine' call_getL ?Aa ?Ba ?Ca ?Da ?Ea ?_; (case Aa | Ba => k_asm); (case Ca => k_mem); (case Da => first | exact trivial | assumption); (case Ea => first | assumption | exact rfl); k_whole; try dsimp only [Option.getD]))
  refine Spec.intro ?_
  intro p loose mean mg mb dp un gd cn cs a ccd cl outer A₀ base h₀ L m hs9 gs9 ds9 ks9 os9 Q E B F X N T hk hd hu hret hout
  revert X; k_fill; intro X
  refine wpAny_call ?_
  k_dflt ktr_enter
  k_steps
  all_goals (refine hret _ _ _ _ ⟨_⟩ (by k_asm) (by k_asm))
theorem s_kon_J (w : World) (news : Led) (a : Nat) (k : Tok) (ha : (a, dictOf [] 0) ∈ news) : Spec w 79 [.str "J" k, .ref a] 1 news (GotS news "decimal") (fun _ _ => False) := by
  k_with_none
  k_with "call builtin:dict.get" => (k_here; (with_reducible show wpAny _ _ (call (Value.builtin _) [Value.ref _, Value.str _ _, _]) _ _ _); k_dflt (refine' call_getL ?Aa ?Ba ?Ca ?Da ?Ea ?_; (case Aa | Ba => k_asm); (case Ca => k_mem); (case Da => first | exact trivial | assumption); (case Ea => first | assumption | exact rfl); k_whole; try dsimp only [Option.getD]))
  refine Spec.intro ?_
  intro p loose mean mg mb dp un gd cn cs a ccd cl outer A₀ base h₀ L m hs9 gs9 ds9 ks9 os9 Q E B F X N T hk hd hu hret hout
  revert X; k_fill; intro X
  refine wpAny_call ?_
  k_dflt ktr_enter
  k_steps
  all_goals (refine hret _ _ _ _ ⟨_⟩ (by k_asm) (by k_asm))
theorem s_kon_A (w : World) (news : Led) (a : Nat) (k : Tok) (ha : (a, dictOf [] 0) ∈ news) : Spec w 79 [.str "A" k, .ref a] 1 news (GotS news "decimal") (fun _ _ => False) := by
  k_with_none
  k_with "call builtin:dict.get" => (k_here; (with_reducible show wpAny _ _ (call (Value.builtin _) [Value.ref _, Value.str _ _, _]) _ _ _); k_dflt (refine' call_getL ?Aa ?Ba ?Ca ?Da ?Ea ?_; (case Aa | Ba => k_asm); (case Ca => k_mem); (case Da => first | exact trivial | assumption); (case Ea => first | assumption | exact rfl); k_whole; try dsimp only [Option.getD]))
  refine Spec.intro ?_
  intro p loose mean mg mb dp un gd cn cs a ccd cl outer A₀ base h₀ L m hs9 gs9 ds9 ks9 os9 Q E B F X N T hk hd hu hret hout
  revert X; k_fill; intro X
  refine wpAny_call ?_
  k_dflt ktr_enter
  k_steps
  all_goals (refine hret _ _ _ _ ⟨_⟩ (by k_asm) (by k_asm))
theorem s_kon_S (w : World) (news : Led) (a : Nat) (k : Tok) (ha : (a, dictOf [] 0) ∈ news) : Spec w 79 [.str "S$" k, .ref a] 1 news (GotS news "text") (fun _ _ => False) := by
  k_with_none
  k_with "call builtin:dict.get" => (k_here; (with_reducible show wpAny _ _ (call (Value.builtin _) [Value.ref _, Value.str _ _, _]) _ _ _); k_dflt (refine' call_getL ?Aa ?Ba ?Ca ?Da ?Ea ?_; (case Aa | Ba => k_asm); (case Ca => k_mem); (case Da => first | exact trivial | assumption); (case Ea => first | assumption | exact rfl); k_whole; try dsimp only [Option.getD]))
  refine Spec.intro ?_
  intro p loose mean mg mb dp un gd cn cs a ccd cl outer A₀ base h₀ L m hs9 gs9 ds9 ks9 os9 Q E B F X N T hk hd hu hret hout
  revert X; k_fill; intro X
  refine wpAny_call ?_
  k_dflt ktr_enter
  k_steps
  all_goals (refine hret _ _ _ _ ⟨_⟩ (by k_asm) (by k_asm))
theorem s_kon_W (w : World) (news : Led) (a : Nat) (k : Tok) (ha : (a, dictOf [] 0) ∈ news) : Spec w 79 [.str "W$" k, .ref a] 1 news (GotS news "text") (fun _ _ => False) := by
  k_with_none
  k_with "call builtin:dict.get" => (k_here; (with_reducible show wpAny _ _ (call (Value.builtin _) [Value.ref _, Value.str _ _, _]) _ _ _); k_dflt (refine' call_getL ?Aa ?Ba ?Ca ?Da ?Ea ?_; (case Aa | Ba => k_asm); (case Ca => k_mem); (case Da => first | exact trivial | assumption); (case Ea => first | assumption | exact rfl); k_whole; try dsimp only [Option.getD]))
  refine Spec.intro ?_
  intro p loose mean mg mb dp un gd cn cs a ccd cl outer A₀ base h₀ L m hs9 gs9 ds9 ks9 os9 Q E B F X N T hk hd hu hret hout
  revert X; k_fill; intro X
  refine wpAny_call ?_
  k_dflt ktr_enter
  k_steps
  all_goals (refine hret _ _ _ _ ⟨_⟩ (by k_asm) (by k_asm))
theorem s_fits (w : World) (news : Led) (x : Int) (t1 t2 : Tok) (hx : -9 ≤ x ∧ x ≤ 9) : Spec w 121 [.int x t1, .int 16 t2] 1 news (fun v n => news = n ∧ v = .bool true) (fun _ _ => False) := by
  k_with_none
  k_with "WhlIf" => (first | (refine WhlIf.no (beq_eq_false_iff_ne.mpr (by rw [Int.fmod_eq_emod_of_nonneg _ (by decide)]; omega)) ?_) | (refine WhlIf.yes (decide_eq_true (by omega)) ?_) | (refine WhlIf.no (decide_eq_false (by omega)) ?_))
  k_with "exec While" => (k_here; k_dflt (refine whl_start 100 ?_))
  k_with "exec While Compare" => (k_here; k_dflt (refine whl_start 100 ?_))
  refine Spec.intro ?_
  intro p loose mean mg mb dp un gd cn cs a ccd cl outer A₀ base h₀ L m hs9 gs9 ds9 ks9 os9 Q E B F X N T hk hd hu hret hout
  obtain ⟨hx1, hx2⟩ := hx
  revert X; k_fill; intro X
  refine wpAny_call ?_
  k_dflt ktr_enter
  k_steps
  all_goals (refine hret _ _ _ _ ⟨rfl, ?_⟩ (by k_asm) (by k_asm))
  all_goals (simp_all; try omega)
theorem s_near (w : World) (news : Led) (t : Nat) (x : Int) (k1 k2 : Tok) (ht : (t, decO x k1 k2) ∈ news) (hx : -9 ≤ x ∧ x ≤ 9) : Spec w 114 [.ref t] 2 news (GotI news x) (fun _ _ => False) := by
  k_with_none
  k_with "WhlIf" => (first | (refine WhlIf.no (beq_eq_false_iff_ne.mpr (by rw [Int.fmod_eq_emod_of_nonneg _ (by decide)]; omega)) ?_) | (refine WhlIf.yes (decide_eq_true (by omega)) ?_) | (refine WhlIf.no (decide_eq_false (by omega)) ?_))
  k_with "exec While" => (k_here; k_dflt (refine whl_start 100 ?_))
  k_with "exec While Compare" => (k_here; k_dflt (refine whl_start 100 ?_))
  refine Spec.intro ?_
  intro p loose mean mg mb dp un gd cn cs a ccd cl outer A₀ base h₀ L m hs9 gs9 ds9 ks9 os9 Q E B F X N T hk hd hu hret hout
  revert X; k_fill; intro X
  refine wpAny_call ?_
  k_dflt ktr_enter
  k_steps
  all_goals (refine hret _ _ _ _ (GotI.of ?_) (by k_asm) (by k_asm))
  all_goals simp
theorem s_figs (w : World) (news : Led) (x : Int) (k1 : Tok) (hx : 0 ≤ x ∧ x ≤ 9) : Spec w 93 [.int x k1] 2 news (GotI news 1) (fun _ _ => False) := by
  k_with_none
  k_with "WhlIf" => (first | (refine WhlIf.no (beq_eq_false_iff_ne.mpr (by rw [Int.fmod_eq_emod_of_nonneg _ (by decide)]; omega)) ?_) | (refine WhlIf.yes (decide_eq_true (by omega)) ?_) | (refine WhlIf.no (decide_eq_false (by omega)) ?_))
  k_with "exec While" => (k_here; k_dflt (refine whl_start 100 ?_))
  k_with "exec While Compare" => (k_here; k_dflt (refine whl_start 100 ?_))
  refine Spec.intro ?_
  intro p loose mean mg mb dp un gd cn cs a ccd cl outer A₀ base h₀ L m hs9 gs9 ds9 ks9 os9 Q E B F X N T hk hd hu hret hout
  obtain ⟨hx1, hx2⟩ := hx
  revert X; k_fill; intro X
  refine wpAny_call ?_
  k_dflt ktr_enter
  k_steps
  all_goals rename_i kN _ _
  all_goals (refine hret _ _ _ _ ⟨_⟩ (by k_asm) (by first | k_asm | (intro q hq; exact kN q (.tail _ hq))))
theorem dropSnd {h₀ h : Heap} {L : Addr} {a b : Addr × Obj} {l : Led} (N : News h₀ L h (a :: b :: l)) : News h₀ L h (a :: l) := fun p hp => N p (by
  rcases List.mem_cons.mp hp with rfl | hp
  · exact .head _
  · exact .tail _ (.tail _ hp))
theorem dropHd {h₀ h : Heap} {L : Addr} {a : Addr × Obj} {l : Led} (N : News h₀ L h (a :: l)) : News h₀ L h l := fun p hp => N p (.tail _ hp)
theorem s_made (w : World) (news : Led) (x : Int) (k1 k2 k3 : Tok) (hx : 0 ≤ x ∧ x ≤ 3) : Spec w 107 [.int x k1, .int 0 k2, .int 9 k3] 4 news (GotD news x) (fun _ _ => False) := by
  k_with_none
  k_with "WhlIf" => (first | (refine WhlIf.no (beq_eq_false_iff_ne.mpr (by rw [Int.fmod_eq_emod_of_nonneg _ (by decide)]; omega)) ?_) | (refine WhlIf.yes (decide_eq_true (by omega)) ?_) | (refine WhlIf.no (decide_eq_false (by omega)) ?_))
  k_with "exec While" => (k_here; k_dflt (refine whl_start 100 ?_))
  k_with "exec While Compare" => (k_here; k_dflt (refine whl_start 100 ?_))
  k_with "call builtin:abs" => (refine call_abs_nn (by omega) ?_; intro _ _)
  k_with "call ref" => (refine' Spec.useK (s_figs _ _ _ _ ?Aa) ?Ba ?Ca ?Da ?Ea ?Fa ?Ga ?Ha ?Ia ?_ ?_; (case Ba | Ca | Da | Ea | Fa | Ga => walk_at "u9"); (case Aa => walk_at "q9"); (case Ha | Ia => walk_at "h9"); rotate_left; exact OutE.none; intro K9 hK9; rintro v n h' tk' ⟨k⟩ F' N'; any_goals (refine hK9 _ _ _ ?_))
  refine Spec.intro ?_
  intro p loose mean mg mb dp un gd cn cs a ccd cl outer A₀ base h₀ L m hs9 gs9 ds9 ks9 os9 Q E B F X N T hk hd hu hret hout
  obtain ⟨hx1, hx2⟩ := hx
  revert X; k_fill; intro X
  refine wpAny_call ?_
  k_dflt ktr_enter
  k_steps
  all_goals first | (have hx0 : x = 0 := by omega); subst hx0 | skip
  all_goals (refine' hret _ _ _ _ ⟨_, _, _, ?zlz9⟩ ?zFz9 ?zNz9; (case zFz9 => k_asm); (case zNz9 => k_asm); (case zlz9 => first | assumption | exact allLt_of (by assumption)))
theorem s_dec (w : World) (news : Led) (t : Nat) (x : Int) (k1 k2 k3 : Tok) (ht : (t, decO x k1 k2) ∈ news) (hx : 0 ≤ x ∧ x ≤ 3) : Spec w 135 [.ref t, .int 9 k3] 6 news (GotD news x) (fun _ _ => False) := by
  k_with_none
  k_with "WhlIf" => (first | (refine WhlIf.no (beq_eq_false_iff_ne.mpr (by rw [Int.fmod_eq_emod_of_nonneg _ (by decide)]; omega)) ?_) | (refine WhlIf.yes (decide_eq_true (by omega)) ?_) | (refine WhlIf.no (decide_eq_false (by omega)) ?_))
  k_with "exec While" => (k_here; k_dflt (refine whl_start 100 ?_))
  k_with "exec While Compare" => (k_here; k_dflt (refine whl_start 100 ?_))
  k_with "call builtin:abs" => (refine call_abs_nn (by omega) ?_; intro _ _)
  k_with "call ref" => (refine' Spec.useK (s_made _ _ _ _ _ _ ?Aa) ?Ba ?Ca ?Da ?Ea ?Fa ?Ga ?Ha ?Ia ?_ ?_; (case Ba | Ca | Da | Ea | Fa | Ga => walk_at "u9"); (case Aa => walk_at "q9"); (case Ha | Ia => walk_at "h9"); rotate_left; exact OutE.none; intro K9 hK9; rintro v n h' tk' ⟨t2, k1', k2', l8⟩ F' N'; (try simp only [AllLt] at l8); any_goals (refine hK9 _ _ _ ?_))
  refine Spec.intro ?_
  intro p loose mean mg mb dp un gd cn cs a ccd cl outer A₀ base h₀ L m hs9 gs9 ds9 ks9 os9 Q E B F X N T hk hd hu hret hout
  obtain ⟨hx1, hx2⟩ := hx
  revert X; k_fill; intro X
  refine wpAny_call ?_
  k_dflt ktr_enter
  k_steps
  all_goals (refine' hret _ _ _ _ ⟨_, _, _, ?zlz9⟩ ?zFz9 ?zNz9; (case zFz9 => k_asm); (case zNz9 => k_asm); (case zlz9 => first | assumption | exact allLt_of (by assumption)))
theorem s_dec_i (w : World) (news : Led) (x : Int) (k1 k3 : Tok) (hx : 0 ≤ x ∧ x ≤ 3) : Spec w 135 [.int x k1, .int 9 k3] 6 news (GotD news x) (fun _ _ => False) := by
  k_with_none
  k_with "WhlIf" => (first | (refine WhlIf.no (beq_eq_false_iff_ne.mpr (by rw [Int.fmod_eq_emod_of_nonneg _ (by decide)]; omega)) ?_) | (refine WhlIf.yes (decide_eq_true (by omega)) ?_) | (refine WhlIf.no (decide_eq_false (by omega)) ?_))
  k_with "exec While" => (k_here; k_dflt (refine whl_start 100 ?_))
  k_with "exec While Compare" => (k_here; k_dflt (refine whl_start 100 ?_))
  k_with "call builtin:abs" => (refine call_abs_nn (by omega) ?_; intro _ _)
  k_with "call ref" => (refine' Spec.useK (s_made _ _ _ _ _ _ ?Aa) ?Ba ?Ca ?Da ?Ea ?Fa ?Ga ?Ha ?Ia ?_ ?_; (case Ba | Ca | Da | Ea | Fa | Ga => walk_at "u9"); (case Aa => walk_at "q9"); (case Ha | Ia => walk_at "h9"); rotate_left; exact OutE.none; intro K9 hK9; rintro v n h' tk' ⟨t2, k1', k2', l8⟩ F' N'; (try simp only [AllLt] at l8); any_goals (refine hK9 _ _ _ ?_))
  refine Spec.intro ?_
  intro p loose mean mg mb dp un gd cn cs a ccd cl outer A₀ base h₀ L m hs9 gs9 ds9 ks9 os9 Q E B F X N T hk hd hu hret hout
  obtain ⟨hx1, hx2⟩ := hx
  revert X; k_fill; intro X
  refine wpAny_call ?_
  k_dflt ktr_enter
  k_steps
  all_goals (refine' hret _ _ _ _ ⟨_, _, _, ?zlz9⟩ ?zFz9 ?zNz9; (case zFz9 => k_asm); (case zNz9 => k_asm); (case zlz9 => first | assumption | exact allLt_of (by assumption)))
theorem s_whole_i (w : World) (news : Led) (x : Int) (k1 k3 : Tok) (hx : -9 ≤ x ∧ x ≤ 9) : Spec w 128 [.int x k1, .int 16 k3] 4 news (GotI news x) (fun _ _ => False) := by
  k_with_none
  k_with "WhlIf" => (first | (refine WhlIf.no (beq_eq_false_iff_ne.mpr (by rw [Int.fmod_eq_emod_of_nonneg _ (by decide)]; omega)) ?_) | (refine WhlIf.yes (decide_eq_true (by omega)) ?_) | (refine WhlIf.no (decide_eq_false (by omega)) ?_))
  k_with "exec While" => (k_here; k_dflt (refine whl_start 100 ?_))
  k_with "exec While Compare" => (k_here; k_dflt (refine whl_start 100 ?_))
  k_with "call builtin:abs" => (refine call_abs_nn (by omega) ?_; intro _ _)
  k_with "call ref" => (refine' Spec.useK (s_fits _ _ _ _ _ ?Aa) ?Ba ?Ca ?Da ?Ea ?Fa ?Ga ?Ha ?Ia ?_ ?_; (case Ba | Ca | Da | Ea | Fa | Ga => walk_at "u9"); (case Aa => walk_at "q9"); (case Ha | Ia => walk_at "h9"); rotate_left; exact OutE.none; intro K9 hK9; rintro v n h' tk' ⟨rfl, rfl⟩ F' N'; any_goals (refine hK9 _ _ _ ?_))
  refine Spec.intro ?_
  intro p loose mean mg mb dp un gd cn cs a ccd cl outer A₀ base h₀ L m hs9 gs9 ds9 ks9 os9 Q E B F X N T hk hd hu hret hout
  obtain ⟨hx1, hx2⟩ := hx
  revert X; k_fill; intro X
  refine wpAny_call ?_
  k_dflt ktr_enter
  k_steps
  all_goals exact hret _ _ _ _ ⟨_⟩ (by k_asm) (by k_asm)
theorem s_whole_d (w : World) (news : Led) (t : Nat) (x : Int) (k1 k2 k3 : Tok) (ht : (t, decO x k1 k2) ∈ news) (hx : -9 ≤ x ∧ x ≤ 9) : Spec w 128 [.ref t, .int 16 k3] 4 news (GotI news x) (fun _ _ => False) := by
  k_with_none
  k_with "WhlIf" => (first | (refine WhlIf.no (beq_eq_false_iff_ne.mpr (by rw [Int.fmod_eq_emod_of_nonneg _ (by decide)]; omega)) ?_) | (refine WhlIf.yes (decide_eq_true (by omega)) ?_) | (refine WhlIf.no (decide_eq_false (by omega)) ?_))
  k_with "exec While" => (k_here; k_dflt (refine whl_start 100 ?_))
  k_with "exec While Compare" => (k_here; k_dflt (refine whl_start 100 ?_))
  k_with "call builtin:abs" => (refine call_abs_nn (by omega) ?_; intro _ _)
  k_with "call ref" => (refine' Spec.useK (s_fits _ _ _ _ _ ?Aa) ?Ba ?Ca ?Da ?Ea ?Fa ?Ga ?Ha ?Ia ?_ ?_; (case Ba | Ca | Da | Ea | Fa | Ga => walk_at "u9"); (case Aa => walk_at "q9"); (case Ha | Ia => walk_at "h9"); rotate_left; exact OutE.none; intro K9 hK9; rintro v n h' tk' ⟨rfl, rfl⟩ F' N'; any_goals (refine hK9 _ _ _ ?_))
  k_with "call ref" => (refine' Spec.useK (s_near _ _ _ _ _ _ ?Ab ?Bb) ?Cb ?Db ?Eb ?Fb ?Gb ?Hb ?Ib ?Jb ?_ ?_; (case Cb | Db | Eb | Fb | Gb | Hb => walk_at "u9"); (case Ab => first | assumption | walk_at "m9"); (case Bb => walk_at "q9"); (case Ib | Jb => walk_at "h9"); rotate_left; exact OutE.none; intro K9 hK9; rintro v n h' tk' ⟨k⟩ F' N'; any_goals (refine hK9 _ _ _ ?_))
  refine Spec.intro ?_
  intro p loose mean mg mb dp un gd cn cs a ccd cl outer A₀ base h₀ L m hs9 gs9 ds9 ks9 os9 Q E B F X N T hk hd hu hret hout
  obtain ⟨hx1, hx2⟩ := hx
  revert X; k_fill; intro X
  refine wpAny_call ?_
  k_dflt ktr_enter
  k_steps
  all_goals exact hret _ _ _ _ ⟨_⟩ (by k_asm) (by k_asm)
theorem s_text_ok (w : World) (news : Led) (x : Str) (k1 : Tok) : Spec w 142 [.str x k1] 4 news (GotS news x) (fun _ _ => False) := by
  k_with_none
  k_with "WhlIf" => (first | (refine WhlIf.no (beq_eq_false_iff_ne.mpr (by rw [Int.fmod_eq_emod_of_nonneg _ (by decide)]; omega)) ?_) | (refine WhlIf.yes (decide_eq_true (by omega)) ?_) | (refine WhlIf.no (decide_eq_false (by omega)) ?_))
  k_with "exec While" => (k_here; k_dflt (refine whl_start 100 ?_))
  k_with "exec While Compare" => (k_here; k_dflt (refine whl_start 100 ?_))
  k_with "call builtin:abs" => (refine call_abs_nn (by omega) ?_; intro _ _)
  refine Spec.intro ?_
  intro p loose mean mg mb dp un gd cn cs a ccd cl outer A₀ base h₀ L m hs9 gs9 ds9 ks9 os9 Q E B F X N T hk hd hu hret hout
  revert X; k_fill; intro X
  refine wpAny_call ?_
  k_dflt ktr_enter
  k_steps
  all_goals exact hret _ _ _ _ ⟨_⟩ (by k_asm) (by k_asm)
theorem s_text_bad (w : World) (news : Led) (t : Nat) (v : Int) (k1 k2 : Tok) (ht : (t, decO v k1 k2) ∈ news) : Spec w 142 [.ref t] 4 news (fun _ _ => False) (fun c n => c = "TM" ∧ news = n) := by
  k_with_none
  k_with "WhlIf" => (first | (refine WhlIf.no (beq_eq_false_iff_ne.mpr (by rw [Int.fmod_eq_emod_of_nonneg _ (by decide)]; omega)) ?_) | (refine WhlIf.yes (decide_eq_true (by omega)) ?_) | (refine WhlIf.no (decide_eq_false (by omega)) ?_))
  k_with "exec While" => (k_here; k_dflt (refine whl_start 100 ?_))
  k_with "exec While Compare" => (k_here; k_dflt (refine whl_start 100 ?_))
  k_with "call builtin:abs" => (refine call_abs_nn (by omega) ?_; intro _ _)
  k_with "call ref" => (refine Made.use (made1 _ _) (by k_asm) (by k_asm) (by k_asm) (by k_asm) (by k_asm) (by first | assumption | rfl) ?Aa ?Ba ?_; (case Aa | Ba => walk_at "h9"); intro e di t k1 k2 h' tk' F' N' hne; refine ⟨_, _, _, rfl, Frag.In.keeps (by k_asm) (Fr.keep F'), (N' _ (.head _)).1, ?_⟩)
  refine Spec.intro ?_
  intro p loose mean mg mb dp un gd cn cs a ccd cl outer A₀ base h₀ L m hs9 gs9 ds9 ks9 os9 Q E B F X N T hk hd hu hret hout
  revert X; k_fill; intro X
  refine wpAny_call ?_
  k_dflt ktr_enter
  k_steps
  exact hout _ _ _ _ _ _ _ _ _ _ _ ⟨rfl, rfl⟩ (by assumption) (by assumption) (by assumption)
theorem s_checked (w : World) (news : Led) (x : Str) (k1 : Tok) (hx : x.length ≤ 4) : Spec w 149 [.str x k1] 4 news (GotS news x) (fun _ _ => False) := by
  k_with_none
  k_with "WhlIf" => (first | (refine WhlIf.no (beq_eq_false_iff_ne.mpr (by rw [Int.fmod_eq_emod_of_nonneg _ (by decide)]; omega)) ?_) | (refine WhlIf.yes (decide_eq_true (by omega)) ?_) | (refine WhlIf.no (decide_eq_false (by omega)) ?_))
  k_with "exec While" => (k_here; k_dflt (refine whl_start 100 ?_))
  k_with "exec While Compare" => (k_here; k_dflt (refine whl_start 100 ?_))
  k_with "call builtin:abs" => (refine call_abs_nn (by omega) ?_; intro _ _)
  k_with "call ref" => (refine Made.use (made1 _ _) (by k_asm) (by k_asm) (by k_asm) (by k_asm) (by k_asm) (by first | assumption | rfl) ?Aa ?Ba ?_; (case Aa | Ba => walk_at "h9"); intro e di t k1 k2 h' tk' F' N' hne; refine ⟨_, _, _, rfl, Frag.In.keeps (by k_asm) (Fr.keep F'), (N' _ (.head _)).1, ?_⟩)
  refine Spec.intro ?_
  intro p loose mean mg mb dp un gd cn cs a ccd cl outer A₀ base h₀ L m hs9 gs9 ds9 ks9 os9 Q E B F X N T hk hd hu hret hout
  revert X; k_fill; intro X
  refine wpAny_call ?_
  k_dflt ktr_enter
  k_steps
  all_goals exact hret _ _ _ _ ⟨_⟩ (by k_asm) (by k_asm)
theorem s_suited_t (w : World) (news : Led) (x : Str) (k1 k2 k3 k4 : Tok) (hx : x.length ≤ 4) : Spec w 156 [.str x k1, .str "text" k2, .int 16 k3, .int 9 k4] 8 news (GotS news x) (fun _ _ => False) := by
  k_with_none
  k_with "WhlIf" => (first | (refine WhlIf.no (beq_eq_false_iff_ne.mpr (by rw [Int.fmod_eq_emod_of_nonneg _ (by decide)]; omega)) ?_) | (refine WhlIf.yes (decide_eq_true (by omega)) ?_) | (refine WhlIf.no (decide_eq_false (by omega)) ?_))
  k_with "exec While" => (k_here; k_dflt (refine whl_start 100 ?_))
  k_with "exec While Compare" => (k_here; k_dflt (refine whl_start 100 ?_))
  k_with "call builtin:abs" => (refine call_abs_nn (by omega) ?_; intro _ _)
  k_with "call ref" => (refine' Spec.useK (s_text_ok _ _ _ _) ?Aa ?Ba ?Ca ?Da ?Ea ?Fa ?Ga ?Ha ?_ ?_; (case Aa | Ba | Ca | Da | Ea | Fa => walk_at "u9"); (case Ga | Ha => walk_at "h9"); rotate_left; exact OutE.none; intro K9 hK9; rintro v n h' tk' ⟨k⟩ F' N'; any_goals (refine hK9 _ _ _ ?_))
  k_with "call ref" => (refine' Spec.useK (s_checked _ _ _ _ ?Ab) ?Bb ?Cb ?Db ?Eb ?Fb ?Gb ?Hb ?Ib ?_ ?_; (case Bb | Cb | Db | Eb | Fb | Gb => walk_at "u9"); (case Ab => assumption); (case Hb | Ib => walk_at "h9"); rotate_left; exact OutE.none; intro K9 hK9; rintro v n h' tk' ⟨k⟩ F' N'; any_goals (refine hK9 _ _ _ ?_))
  refine Spec.intro ?_
  intro p loose mean mg mb dp un gd cn cs a ccd cl outer A₀ base h₀ L m hs9 gs9 ds9 ks9 os9 Q E B F X N T hk hd hu hret hout
  revert X; k_fill; intro X
  refine wpAny_call ?_
  k_dflt ktr_enter
  k_steps
  all_goals exact hret _ _ _ _ ⟨_⟩ (by k_asm) (by k_asm)
theorem s_suited_d (w : World) (news : Led) (t : Nat) (x : Int) (k1 k2 k3 k4 k5 : Tok) (ht : (t, decO x k1 k2) ∈ news) (hx : 0 ≤ x ∧ x ≤ 3) : Spec w 156 [.ref t, .str "decimal" k3, .int 16 k4, .int 9 k5] 8 news (GotD news x) (fun _ _ => False) := by
  k_with_none
  k_with "WhlIf" => (first | (refine WhlIf.no (beq_eq_false_iff_ne.mpr (by rw [Int.fmod_eq_emod_of_nonneg _ (by decide)]; omega)) ?_) | (refine WhlIf.yes (decide_eq_true (by omega)) ?_) | (refine WhlIf.no (decide_eq_false (by omega)) ?_))
  k_with "exec While" => (k_here; k_dflt (refine whl_start 100 ?_))
  k_with "exec While Compare" => (k_here; k_dflt (refine whl_start 100 ?_))
  k_with "call builtin:abs" => (refine call_abs_nn (by omega) ?_; intro _ _)
  k_with "call ref" => (refine' Spec.useK (s_dec _ _ _ _ _ _ _ ?Aa ?Ba) ?Ca ?Da ?Ea ?Fa ?Ga ?Ha ?Ia ?Ja ?_ ?_; (case Ca | Da | Ea | Fa | Ga | Ha => walk_at "u9"); (case Aa => first | assumption | walk_at "m9"); (case Ba => walk_at "q9"); (case Ia | Ja => walk_at "h9"); rotate_left; exact OutE.none; intro K9 hK9; rintro v n h' tk' ⟨t2, k1', k2', l8⟩ F' N'; (try simp only [AllLt] at l8); any_goals (refine hK9 _ _ _ ?_))
  refine Spec.intro ?_
  intro p loose mean mg mb dp un gd cn cs a ccd cl outer A₀ base h₀ L m hs9 gs9 ds9 ks9 os9 Q E B F X N T hk hd hu hret hout
  obtain ⟨hx1, hx2⟩ := hx
  revert X; k_fill; intro X
  refine wpAny_call ?_
  k_dflt ktr_enter
  k_steps
  all_goals (refine' hret _ _ _ _ ⟨_, _, _, ?zlz9⟩ ?zFz9 ?zNz9; (case zFz9 => k_asm); (case zNz9 => k_asm); (case zlz9 => first | assumption | exact allLt_of (by assumption)))
theorem s_suited_i (w : World) (news : Led) (x : Int) (k1 k3 k4 k5 : Tok) (hx : 0 ≤ x ∧ x ≤ 3) : Spec w 156 [.int x k1, .str "decimal" k3, .int 16 k4, .int 9 k5] 8 news (GotD news x) (fun _ _ => False) := by
  k_with_none
  k_with "WhlIf" => (first | (refine WhlIf.no (beq_eq_false_iff_ne.mpr (by rw [Int.fmod_eq_emod_of_nonneg _ (by decide)]; omega)) ?_) | (refine WhlIf.yes (decide_eq_true (by omega)) ?_) | (refine WhlIf.no (decide_eq_false (by omega)) ?_))
  k_with "exec While" => (k_here; k_dflt (refine whl_start 100 ?_))
  k_with "exec While Compare" => (k_here; k_dflt (refine whl_start 100 ?_))
  k_with "call builtin:abs" => (refine call_abs_nn (by omega) ?_; intro _ _)
  k_with "call ref" => (refine' Spec.useK (s_dec_i _ _ _ _ _ ?Aa) ?Ba ?Ca ?Da ?Ea ?Fa ?Ga ?Ha ?Ia ?_ ?_; (case Ba | Ca | Da | Ea | Fa | Ga => walk_at "u9"); (case Aa => walk_at "q9"); (case Ha | Ia => walk_at "h9"); rotate_left; exact OutE.none; intro K9 hK9; rintro v n h' tk' ⟨t2, k1', k2', l8⟩ F' N'; (try simp only [AllLt] at l8); any_goals (refine hK9 _ _ _ ?_))
  refine Spec.intro ?_
  intro p loose mean mg mb dp un gd cn cs a ccd cl outer A₀ base h₀ L m hs9 gs9 ds9 ks9 os9 Q E B F X N T hk hd hu hret hout
  obtain ⟨hx1, hx2⟩ := hx
  revert X; k_fill; intro X
  refine wpAny_call ?_
  k_dflt ktr_enter
  k_steps
  all_goals (refine' hret _ _ _ _ ⟨_, _, _, ?zlz9⟩ ?zFz9 ?zNz9; (case zFz9 => k_asm); (case zNz9 => k_asm); (case zlz9 => first | assumption | exact allLt_of (by assumption)))
theorem s_suited_n (w : World) (news : Led) (v : Value) (x : Int) (k3 k4 k5 : Tok) (hv : PV news v (.num x)) (hx : 0 ≤ x ∧ x ≤ 3) : Spec w 156 [v, .str "decimal" k3, .int 16 k4, .int 9 k5] 8 news (GotD news x) (fun _ _ => False) := by
  rcases hv with ⟨k, rfl⟩ | ⟨t, k1, k2, rfl, ht⟩
  · exact s_suited_i w news x k k3 k4 k5 hx
  · exact s_suited_d w news t x k1 k2 k3 k4 k5 ht hx
theorem s_kon (w : World) (news : Led) (a : Nat) (k : Tok) (x : Wrd) (ha : (a, dictOf [] 0) ∈ news) : Spec w 79 [.str x.word k, .ref a] 1 news (GotS news (kindS x.isT)) (fun _ _ => False) := by
  rcases x with (_ | _ | _) | (_ | _)
  · exact s_kon_I w news a k ha
  · exact s_kon_J w news a k ha
  · exact s_kon_S w news a k ha
  · exact s_kon_A w news a k ha
  · exact s_kon_W w news a k ha
theorem werr (p : Nm) : (p.word == (PySem.Str.ofString "ERR")) = false := by cases p <;> decide
theorem werl (p : Nm) : (p.word == (PySem.Str.ofString "ERL")) = false := by cases p <;> decide
theorem s_kindhere (w : World) (A : Ad) (O : A.Ok w) (news : Led) (W : Wd A news) (x : Wrd) (k : Tok) : Spec w 192 [.ref A.wld, .str x.word k] 2 news (GotS news (kindS x.isT)) (fun _ _ => False) := by
  k_with_none
  k_with "compareOp NotIn str ref" => (k_here; k_dflt (refine' notin_L ?Aa ?Ba ?Ca ?Da ?Ea ?_; (case Aa | Ba => k_asm); (case Ca => k_mem); (case Da => first | exact trivial | assumption); (case Ea => first | assumption | exact rfl); k_whole; try dsimp only [Option.isSome, Bool.not_false, Bool.not_true]))
  k_with "call ref" => (refine' Spec.useK (s_kon _ _ _ _ _ ?Ab) ?Bb ?Cb ?Db ?Eb ?Fb ?Gb ?Hb ?Ib ?_ ?_; (case Bb | Cb | Db | Eb | Fb | Gb => walk_at "u9"); (case Ab => first | assumption | walk_at "m9"); (case Hb | Ib => walk_at "h9"); rotate_left; exact OutE.none; intro K9 hK9; rintro v n h' tk' ⟨k⟩ F' N'; any_goals (refine hK9 _ _ _ ?_))
  refine Spec.intro ?_
  intro p loose mean mg mb dp un gd cn cs a ccd cl outer A₀ base h₀ L m hs9 gs9 ds9 ks9 os9 Q E B F X N T hk hd hu hret hout
  have m1 := W.wld; have m2 := W.dW; have m3 := W.aK; have m4 := W.aFl; have m5 := W.run; have m6 := W.dR
  have e1 := O.wNames; have e2 := O.wKinds; have e3 := O.wFields; have e4 := O.rWorld; have e5 := O.rAsked; obtain ⟨kb, e6⟩ := O.wBits; obtain ⟨kd, e7⟩ := O.wDigits
  revert X; k_fill; intro X
  refine wpAny_call ?_
  k_dflt ktr_enter
  k_steps
  all_goals exact hret _ _ _ _ ⟨_⟩ (by k_asm) (by k_asm)
theorem s_getname (w : World) (A : Ad) (O : A.Ok w) (news : Led) (W : Wd A news) (x : Nm) (k : Tok) (o : Obj) (f : Str → Option Value) (v₀ : Value) (hN : (A.aN, o) ∈ news) (S : SaysO w f o) (hf : f x.word = some v₀) : Spec w 199 [.ref A.wld, .str x.word k] 3 news (fun v n => news = n ∧ v = v₀) (fun _ _ => False) := by
  k_with_none
  k_with "compareOp NotIn str ref" => (k_here; k_dflt (refine' notin_L ?Aa ?Ba ?Ca ?Da ?Ea ?_; (case Aa | Ba => k_asm); (case Ca => k_mem); (case Da => first | exact trivial | assumption); (case Ea => first | assumption | exact rfl); k_whole; try dsimp only [Option.isSome, Bool.not_false, Bool.not_true]))
  k_with "compareOp In str ref" => (refine' in_S1 ?Ab ?Bb ?Cb ?Db ?Eb ?_; (case Ab | Bb => k_asm); (case Cb => first | assumption | walk_at "m9"); (case Db | Eb => assumption); k_whole)
  k_with "compareOp In str str" => (refine' in_S1 ?Ac ?Bc ?Cc ?Dc ?Ec ?_; (case Ac | Bc => k_asm); (case Cc => first | assumption | walk_at "m9"); (case Dc | Ec => assumption); k_whole)
  k_with "subscriptTail" => (refine' item_S ?Ad ?Bd ?Cd ?Dd ?_ ?Ed; (case Ad => k_asm); (case Bd => first | assumption | walk_at "m9"); (case Cd | Dd => assumption); (case Ed => with_unfolding_all rfl); k_whole)
  k_with "subscriptTail Name Constant ref int" => (refine' item_S ?Ae ?Be ?Ce ?De ?_ ?Ee; (case Ae => k_asm); (case Be => first | assumption | walk_at "m9"); (case Ce | De => assumption); (case Ee => with_unfolding_all rfl); k_whole)
  k_with "compareOp Eq str str" => (first | refine eq_str_b (werr _) ?_ | refine eq_str_b (werl _) ?_)
  refine Spec.intro ?_
  intro p loose mean mg mb dp un gd cn cs a ccd cl outer A₀ base h₀ L m hs9 gs9 ds9 ks9 os9 Q E B F X N T hk hd hu hret hout
  have m1 := W.wld; have m2 := W.dW; have m3 := W.aK; have m4 := W.aFl; have m5 := W.run; have m6 := W.dR
  have e1 := O.wNames; have e2 := O.wKinds; have e3 := O.wFields; have e4 := O.rWorld; have e5 := O.rAsked; obtain ⟨kb, e6⟩ := O.wBits; obtain ⟨kd, e7⟩ := O.wDigits
  revert X; k_fill; intro X
  refine wpAny_call ?_
  k_dflt ktr_enter
  k_steps
  all_goals exact hret _ _ _ _ ⟨rfl, rfl⟩ (by k_asm) (by k_asm)
theorem s_ftext (w : World) (A : Ad) (O : A.Ok w) (news : Led) (W : Wd A news) (x : Str) (k : Tok) : Spec w 520 [.ref A.wld, .str x k] 2 news (fun v n => news = n ∧ v = .none) (fun _ _ => False) := by
  k_with_none
  k_with "compareOp NotIn str ref" => (k_here; k_dflt (refine' notin_L ?Aa ?Ba ?Ca ?Da ?Ea ?_; (case Aa | Ba => k_asm); (case Ca => k_mem); (case Da => first | exact trivial | assumption); (case Ea => first | assumption | exact rfl); k_whole; try dsimp only [Option.isSome, Bool.not_false, Bool.not_true]))
  refine Spec.intro ?_
  intro p loose mean mg mb dp un gd cn cs a ccd cl outer A₀ base h₀ L m hs9 gs9 ds9 ks9 os9 Q E B F X N T hk hd hu hret hout
  have m1 := W.wld; have m2 := W.dW; have m3 := W.aK; have m4 := W.aFl; have m5 := W.run; have m6 := W.dR
  have e1 := O.wNames; have e2 := O.wKinds; have e3 := O.wFields; have e4 := O.rWorld; have e5 := O.rAsked; obtain ⟨kb, e6⟩ := O.wBits; obtain ⟨kd, e7⟩ := O.wDigits
  revert X; k_fill; intro X
  refine wpAny_call ?_
  k_dflt ktr_enter
  k_steps
  all_goals exact hret _ _ _ _ ⟨rfl, rfl⟩ (by k_asm) (by k_asm)
theorem s_varval (w : World) (A : Ad) (O : A.Ok w) (news : Led) (W : Wd A news) (x : Nm) (k : Tok) (o : Obj) (f : Str → Option Value) (v₀ : Value) (hN : (A.aN, o) ∈ news) (S : SaysO w f o) (hf : f x.word = some v₀) : Spec w 548 [.ref A.wld, .str x.word k] 5 news (fun v n => news = n ∧ v = v₀) (fun _ _ => False) := by
  k_with_none
  k_with "compareOp NotIn str ref" => (k_here; k_dflt (refine' notin_L ?Aa ?Ba ?Ca ?Da ?Ea ?_; (case Aa | Ba => k_asm); (case Ca => k_mem); (case Da => first | exact trivial | assumption); (case Ea => first | assumption | exact rfl); k_whole; try dsimp only [Option.isSome, Bool.not_false, Bool.not_true]))
  k_with "call ref" => (refine' Spec.useK (s_ftext _ _ ?Ab _ ?Bb _ _) ?Cb ?Db ?Eb ?Fb ?Gb ?Hb ?Ib ?Jb ?_ ?_; (case Cb | Db | Eb | Fb | Gb | Hb => walk_at "u9"); (case Ab | Bb => assumption); (case Ib | Jb => walk_at "h9"); rotate_left; exact OutE.none; intro K9 hK9; rintro v n h' tk' ⟨rfl, rfl⟩ F' N'; any_goals (refine hK9 _ _ _ ?_))
  k_with "call ref" => (refine' Spec.useK (s_getname _ _ ?Ac _ ?Bc _ _ _ _ _ ?Cc ?Dc ?Ec) ?Fc ?Gc ?Hc ?Ic ?Jc ?Kc ?Lc ?Mc ?_ ?_; (case Fc | Gc | Hc | Ic | Jc | Kc => walk_at "u9"); (case Ac | Bc => assumption); (case Cc | Dc | Ec => assumption); (case Lc | Mc => walk_at "h9"); rotate_left; exact OutE.none; intro K9 hK9; rintro v n h' tk' ⟨rfl, rfl⟩ F' N'; any_goals (refine hK9 _ _ _ ?_))
  k_with "compareOp In str ref" => (refine' in_S1 ?Ad ?Bd ?Cd ?Dd ?Ed ?_; (case Ad | Bd => k_asm); (case Cd => first | assumption | walk_at "m9"); (case Dd | Ed => assumption); k_whole)
  k_with "compareOp In str str" => (refine' in_S1 ?Ae ?Be ?Ce ?De ?Ee ?_; (case Ae | Be => k_asm); (case Ce => first | assumption | walk_at "m9"); (case De | Ee => assumption); k_whole)
  k_with "subscriptTail" => (refine' item_S ?Af ?Bf ?Cf ?Df ?_ ?Ef; (case Af => k_asm); (case Bf => first | assumption | walk_at "m9"); (case Cf | Df => assumption); (case Ef => with_unfolding_all rfl); k_whole)
  k_with "subscriptTail Name Constant ref int" => (refine' item_S ?Ag ?Bg ?Cg ?Dg ?_ ?Eg; (case Ag => k_asm); (case Bg => first | assumption | walk_at "m9"); (case Cg | Dg => assumption); (case Eg => with_unfolding_all rfl); k_whole)
  k_with "compareOp Eq str str" => (first | refine eq_str_b (werr _) ?_ | refine eq_str_b (werl _) ?_)
  refine Spec.intro ?_
  intro p loose mean mg mb dp un gd cn cs a ccd cl outer A₀ base h₀ L m hs9 gs9 ds9 ks9 os9 Q E B F X N T hk hd hu hret hout
  have m1 := W.wld; have m2 := W.dW; have m3 := W.aK; have m4 := W.aFl; have m5 := W.run; have m6 := W.dR
  have e1 := O.wNames; have e2 := O.wKinds; have e3 := O.wFields; have e4 := O.rWorld; have e5 := O.rAsked; obtain ⟨kb, e6⟩ := O.wBits; obtain ⟨kd, e7⟩ := O.wDigits
  revert X; k_fill; intro X
  refine wpAny_call ?_
  k_dflt ktr_enter
  k_steps
  all_goals exact hret _ _ _ _ ⟨rfl, rfl⟩ (by k_asm) (by k_asm)
theorem s_von (w : World) (A : Ad) (σ : Sg) (left : List Int) (q : Nat) (O : A.Ok w) (st : Led) (W : Wd A st) (M : Mu w A σ left q st) (hq : q ≤ 10000) (x : Nm) (k : Tok) : Spec w 656 [.ref A.run, .str x.word k] 8 st (fun v n => Left w A σ left (q + 1) st n ∧ VR n v (σ.nm x)) (fun _ _ => False) := by
  k_with_none
  k_with "call builtin:list.append" => (k_here; (with_reducible show wpAny _ _ (call (Value.builtin _) [Value.ref _, _]) _ _ _); k_dflt (refine' append_K ?Aa ?Ba ?Ca ?_ ?Da; (case Aa | Ba => k_asm); (case Ca => k_upd); (case Da => first | size_fits | (simp only [sizeLine_eq]; omega) | (simp only [List.size_toArray, Array.size_push, sizeLine_eq]; omega)); k_whole); intro h' F' N'; (try k_sweep))
  k_with "call ref" => (refine' Spec.useK (s_varval _ _ ?Ab _ ?Bb _ _ _ _ _ ?Cb ?Db ?Eb) ?Fb ?Gb ?Hb ?Ib ?Jb ?Kb ?Lb ?Mb ?_ ?_; (case Fb | Gb | Hb | Ib | Jb | Kb => walk_at "u9"); (case Ab => assumption); (case Bb => first | assumption | exact W1 _); (case Cb => first | assumption | walk_at "m9"); (case Db | Eb => assumption); (case Lb | Mb => walk_at "h9"); rotate_left; exact OutE.none; intro K9 hK9; rintro v n h' tk' ⟨rfl, rfl⟩ F' N'; any_goals (refine hK9 _ _ _ ?_))
  refine Spec.intro ?_
  intro p loose mean mg mb dp un gd cn cs a ccd cl outer A₀ base h₀ L m hs9 gs9 ds9 ks9 os9 Q E B F X N T hk hd hu hret hout
  obtain ⟨oN, vI, vJ, vS, hN, D, r1, r2, r3⟩ := M.names
  obtain ⟨vp, hf, hv⟩ := names_at r1 r2 r3 x
  have S := dictO_says D
  have hN' : (A.aN, oN) ∈ off st A.ask := off_mem.mpr ⟨hN, (mut_ne O).2.2.1⟩
  obtain ⟨us, nu, hA, hs⟩ := M.asked
  have W1 : ∀ o', Wd A ((A.ask, o') :: off st A.ask) := fun o' => W.keep O (keep_off N hA list_nt (ask_mut A))
  have K1 : ∀ o', Keep A st ((A.ask, o') :: off st A.ask) := fun o' => keep_off N hA list_nt (ask_mut A)
  have MP : ∀ vs' n', vs'.size ≤ q + 1 → Mu w A σ left (q + 1) ((A.ask, listOf vs' n') :: off st A.ask) := fun vs' n' h => M.put_ask O N hA h (Nat.le_succ q)
  have OFF : OwnOff (off st A.ask) [A.ask] := off_own
  replace N := news_off N hA
  have W2 := W.offm O (ask_mut A)
  have m1 := W2.wld; have m2 := W2.dW; have m3 := W2.aK; have m4 := W2.aFl; have m5 := W2.run; have m6 := W2.dR
  have e1 := O.wNames; have e2 := O.wKinds; have e3 := O.wFields; have e4 := O.rWorld; have e5 := O.rAsked; obtain ⟨kb, e6⟩ := O.wBits; obtain ⟨kd, e7⟩ := O.wDigits
  revert X; k_fill; intro X
  refine wpAny_call ?_
  k_dflt ktr_enter
  k_steps
  all_goals (refine' hret _ _ _ _ ⟨⟨W1 _, MP _ _ ?s1z9, K1 _⟩, hv.mono (K1 _).2⟩ ?zFz9 ?zNz9; (case zFz9 => k_asm); (case zNz9 => k_asm); (case s1z9 => rw [Array.size_push]; omega))
theorem s_gridof (w : World) (A : Ad) (O : A.Ok w) (news : Led) (W : Wd A news) (b : Ar) (k k2 : Tok) : Spec w 302 [.ref A.wld, .str b.word k, .int 1 k2] 3 news (fun v n => news = n ∧ v = .ref (A.g b)) (fun _ _ => False) := by
  k_with_none
  k_with "UnrEndW" => ((refine' unr_var ?Aa ?Ba ?Ca ⟨?Da, ?_⟩; (case Aa | Ba => assumption); (case Ca => (intro p' hp' q' hq'; have hlt' := ktn_ltOf ‹AllLt _ _› p' hp'; simp only [List.mem_cons, List.not_mem_nil, or_false] at hq'; rcases hq' with h1 | h1 | h1 | h1 | h1 <;> (rw [h1]; refine neN ?_; refine Nat.ne_of_lt (Nat.lt_of_lt_of_le hlt' ?_); simp))); (case Da => (repeat (first | exact trivial | refine And.intro (by k_mem) ?_)))))
  k_with "UnrEndW" => ((refine' unr_var ?Ab ?Bb ?Cb ⟨?Db, ?_⟩; (case Ab | Bb => assumption); (case Cb => (intro p' hp' q' hq'; rw [List.mem_singleton.mp hq']; exact Nat.ne_of_lt (ktn_ltOf (by assumption) p' hp'))); (case Db => (repeat (first | exact trivial | refine And.intro (by k_mem) ?_)))))
  k_with "call type:zip" => (k_here; (with_reducible show wpAny _ _ (call (Value.type _) [Value.ref _, Value.ref _]) (fun xv s₁ => wpAny _ _ (pyIter xv) (fun it s₂ => TurnsAt _ _ _ _ _ _ _ _ _ it s₂) _ s₁) _ _); k_dflt (refine' ktu_zip ?Ac ?Bc ?Cc ?Dc ?Ec ?Fc ?Gc ?Hc ?Ic ?_; (case Ac => rfl); (case Bc | Cc => k_asm); (case Dc | Gc => k_mem); (case Ec | Fc => rfl); (case Hc | Ic => rfl); k_whole); intro I' l1; (first | k_lt l1 | replace l1 := allLt_of l1); (try dsimp only [zipItems]))
  k_with "exec For Tuple Call" => (k_here; (rename Fr _ _ _ _ => lF'); (with_unfolding_all refine' For_turns lF' ?_; k_whole))
  k_with "compareOp NotIn str ref" => (k_here; k_dflt (refine' notin_L ?Ad ?Bd ?Cd ?Dd ?Ed ?_; (case Ad | Bd => k_asm); (case Cd => k_mem); (case Dd => first | exact trivial | assumption); (case Ed => first | assumption | exact rfl); k_whole; try dsimp only [Option.isSome, Bool.not_false, Bool.not_true]))
  refine Spec.intro ?_
  intro p loose mean mg mb dp un gd cn cs a ccd cl outer A₀ base h₀ L m hs9 gs9 ds9 ks9 os9 Q E B F X N T hk hd hu hret hout
  have m1 := W.wld; have m2 := W.dW; have m3 := W.aArr; have m4 := W.g b; have m5 := W.dg b; obtain ⟨nh, m6⟩ := W.hi b
  have e1 := O.wArrays; have e2 := O.arr b; have e3 := O.arrK; have e4 := O.gHighs b; obtain ⟨kb, e5⟩ := O.gBase b; have e6 := O.gItems b
  revert X; k_fill; intro X
  refine wpAny_call ?_
  k_dflt ktr_enter
  k_steps
  all_goals exact hret _ _ _ _ ⟨rfl, rfl⟩ (by k_asm) (by k_asm)
theorem s_placeof (w : World) (A : Ad) (O : A.Ok w) (news : Led) (W : Wd A news) (b : Ar) (l n : Nat) (i : Int) (k : Tok) (hl : (l, listOf #[.int i k] n) ∈ news) (hi : -9 ≤ i ∧ i ≤ 9) : Spec w 309 [.ref (A.g b), .ref l] 4 news (fun v n => news = n ∧ (0 ≤ i ∧ i ≤ 3) ∧ ∃ k, v = .int i k) (fun c n => c = "BS" ∧ news = n ∧ ¬ (0 ≤ i ∧ i ≤ 3)) := by
  k_with_none
  k_with "UnrEndW" => ((refine' unr_var ?Aa ?Ba ?Ca ⟨?Da, ?_⟩; (case Aa | Ba => assumption); (case Ca => (intro p' hp' q' hq'; have hlt' := ktn_ltOf ‹AllLt _ _› p' hp'; simp only [List.mem_cons, List.not_mem_nil, or_false] at hq'; rcases hq' with h1 | h1 | h1 | h1 | h1 <;> (rw [h1]; refine neN ?_; refine Nat.ne_of_lt (Nat.lt_of_lt_of_le hlt' ?_); simp))); (case Da => (repeat (first | exact trivial | refine And.intro (by k_mem) ?_)))))
  k_with "UnrEndW" => ((refine' unr_var ?Ab ?Bb ?Cb ⟨?Db, ?_⟩; (case Ab | Bb => assumption); (case Cb => (intro p' hp' q' hq'; rw [List.mem_singleton.mp hq']; exact Nat.ne_of_lt (ktn_ltOf (by assumption) p' hp'))); (case Db => (repeat (first | exact trivial | refine And.intro (by k_mem) ?_)))))
  k_with "call type:zip" => (k_here; (with_reducible show wpAny _ _ (call (Value.type _) [Value.ref _, Value.ref _]) (fun xv s₁ => wpAny _ _ (pyIter xv) (fun it s₂ => TurnsAt _ _ _ _ _ _ _ _ _ it s₂) _ s₁) _ _); k_dflt (refine' ktu_zip ?Ac ?Bc ?Cc ?Dc ?Ec ?Fc ?Gc ?Hc ?Ic ?_; (case Ac => rfl); (case Bc | Cc => k_asm); (case Dc | Gc => k_mem); (case Ec | Fc => rfl); (case Hc | Ic => rfl); k_whole); intro I' l1; (first | k_lt l1 | replace l1 := allLt_of l1); (try dsimp only [zipItems]))
  k_with "exec For Tuple Call" => (k_here; (rename Fr _ _ _ _ => lF'); (with_unfolding_all refine' For_turns lF' ?_; k_whole))
  k_with "compareOp NotIn str ref" => (k_here; k_dflt (refine' notin_L ?Ad ?Bd ?Cd ?Dd ?Ed ?_; (case Ad | Bd => k_asm); (case Cd => k_mem); (case Dd => first | exact trivial | assumption); (case Ed => first | assumption | exact rfl); k_whole; try dsimp only [Option.isSome, Bool.not_false, Bool.not_true]))
  k_with "call ref" => (refine Made.use (made2 _ _ _) (by k_asm) (by k_asm) (by k_asm) (by k_asm) (by k_asm) (by first | assumption | rfl) ?Ae ?Be ?_; (case Ae | Be => walk_at "h9"); intro e di t k1 k2 h' tk' F' N' hne; refine ⟨_, _, _, rfl, Frag.In.keeps (by k_asm) (Fr.keep F'), (N' _ (.head _)).1, ?_⟩)
  refine Spec.intro ?_
  intro p loose mean mg mb dp un gd cn cs a ccd cl outer A₀ base h₀ L m hs9 gs9 ds9 ks9 os9 Q E B F X N T hk hd hu hret hout
  have m1 := W.wld; have m2 := W.dW; have m3 := W.aArr; have m4 := W.g b; have m5 := W.dg b; obtain ⟨nh, m6⟩ := W.hi b
  have e1 := O.wArrays; have e2 := O.arr b; have e3 := O.arrK; have e4 := O.gHighs b; obtain ⟨kb, e5⟩ := O.gBase b; have e6 := O.gItems b
  revert X; k_fill; intro X
  refine wpAny_call ?_
  k_dflt ktr_enter
  k_steps
  all_goals first
    | (refine' hret _ _ _ _ ⟨rfl, ⟨?z2z9, ?z3z9⟩, ktn_int ?z1z9⟩ ?zFz9 ?zNz9; (case zFz9 => k_asm); (case zNz9 => k_asm); (case z1z9 => omega); (case z2z9 => assumption); (case z3z9 => assumption))
    | (refine' hout _ _ _ _ _ _ _ _ _ _ _ ⟨rfl, rfl, ?zz9⟩ ?zGz9 (Rz.sub ?zRz9 sub5) ?zUz9; (case zRz9 => assumption); (case zGz9 => assumption); (case zUz9 => assumption); (case zz9 => omega))
theorem s_getitem (w : World) (A : Ad) (σ : Sg) (O : A.Ok w) (news : Led) (W : Wd A news) (b : Ar) (v0 v1 v2 v3 : Value) (ni : Nat) (hit : (A.it b, listOf #[v0, v1, v2, v3] ni) ∈ news) (r0 : VR news v0 (σ.ar b 0)) (r1 : VR news v1 (σ.ar b 1)) (r2 : VR news v2 (σ.ar b 2)) (r3 : VR news v3 (σ.ar b 3)) (l n : Nat) (i : Int) (k k0 : Tok) (hl : (l, listOf #[.int i k] n) ∈ news) (hi : -9 ≤ i ∧ i ≤ 9) : Spec w 316 [.ref A.wld, .str b.word k0, .ref l] 8 news (fun v n => news = n ∧ (0 ≤ i ∧ i ≤ 3) ∧ VR news v (σ.ar b i.toNat)) (fun c n => c = "BS" ∧ news = n ∧ ¬ (0 ≤ i ∧ i ≤ 3)) := by
  k_with_none
  k_with "UnrEndW" => ((refine' unr_var ?Aa ?Ba ?Ca ⟨?Da, ?_⟩; (case Aa | Ba => assumption); (case Ca => (intro p' hp' q' hq'; have hlt' := ktn_ltOf ‹AllLt _ _› p' hp'; simp only [List.mem_cons, List.not_mem_nil, or_false] at hq'; rcases hq' with h1 | h1 | h1 | h1 | h1 <;> (rw [h1]; refine neN ?_; refine Nat.ne_of_lt (Nat.lt_of_lt_of_le hlt' ?_); simp))); (case Da => (repeat (first | exact trivial | refine And.intro (by k_mem) ?_)))))
  k_with "UnrEndW" => ((refine' unr_var ?Ab ?Bb ?Cb ⟨?Db, ?_⟩; (case Ab | Bb => assumption); (case Cb => (intro p' hp' q' hq'; rw [List.mem_singleton.mp hq']; exact Nat.ne_of_lt (ktn_ltOf (by assumption) p' hp'))); (case Db => (repeat (first | exact trivial | refine And.intro (by k_mem) ?_)))))
  k_with "call type:zip" => (k_here; (with_reducible show wpAny _ _ (call (Value.type _) [Value.ref _, Value.ref _]) (fun xv s₁ => wpAny _ _ (pyIter xv) (fun it s₂ => TurnsAt _ _ _ _ _ _ _ _ _ it s₂) _ s₁) _ _); k_dflt (refine' ktu_zip ?Ac ?Bc ?Cc ?Dc ?Ec ?Fc ?Gc ?Hc ?Ic ?_; (case Ac => rfl); (case Bc | Cc => k_asm); (case Dc | Gc => k_mem); (case Ec | Fc => rfl); (case Hc | Ic => rfl); k_whole); intro I' l1; (first | k_lt l1 | replace l1 := allLt_of l1); (try dsimp only [zipItems]))
  k_with "exec For Tuple Call" => (k_here; (rename Fr _ _ _ _ => lF'); (with_unfolding_all refine' For_turns lF' ?_; k_whole))
  k_with "compareOp NotIn str ref" => (k_here; k_dflt (refine' notin_L ?Ad ?Bd ?Cd ?Dd ?Ed ?_; (case Ad | Bd => k_asm); (case Cd => k_mem); (case Dd => first | exact trivial | assumption); (case Ed => first | assumption | exact rfl); k_whole; try dsimp only [Option.isSome, Bool.not_false, Bool.not_true]))
  k_with "call ref" => (refine' Spec.useK (s_gridof _ _ ?Ae _ ?Be _ _ _) ?Ce ?De ?Ee ?Fe ?Ge ?He ?Ie ?Je ?_ ?_; (case Ce | De | Ee | Fe | Ge | He => walk_at "u9"); (case Ae | Be => assumption); (case Ie | Je => walk_at "h9"); rotate_left; exact OutE.none; intro K9 hK9; rintro v n h' tk' ⟨rfl, rfl⟩ F' N'; any_goals (refine hK9 _ _ _ ?_))
  k_with "call ref" => (refine' Spec.useK (s_placeof _ _ ?Af _ ?Bf _ _ _ _ _ ?Cf ?Df) ?Ef ?Ff ?Gf ?Hf ?If ?Jf ?Kf ?Lf ?_ ?_; (case Ef | Ff | Gf | Hf | If | Jf => walk_at "u9"); (case Af | Bf => assumption); (case Cf => first | assumption | walk_at "m9"); (case Df => walk_at "q9"); (case Kf | Lf => walk_at "h9"); rotate_left; (rintro c told k1 k2 k3 e di n h' tk' G ⟨rfl, rfl, hin⟩ F' R' U'); rotate_left; intro K9 hK9; rintro v n h' tk' ⟨rfl, hin, k9, rfl⟩ F' N'; obtain ⟨hin0, hin3⟩ := hin; obtain ⟨vi, hvi, hvr⟩ := items_at hin0 hin3 r0 r1 r2 r3; any_goals (refine hK9 _ _ _ ?_))
  k_with "subscriptTail" => (refine' item_listN ?Ag ?Bg ?Cg ?Dg ?Eg ?_ ?Fg; (case Ag => k_asm); (case Bg => walk_at "m9"); (case Cg => assumption); (case Dg => omega); (case Eg => assumption); (case Fg => with_unfolding_all rfl); k_whole)
  k_with "subscriptTail Name Constant ref int" => (refine' item_listN ?Ah ?Bh ?Ch ?Dh ?Eh ?_ ?Fh; (case Ah => k_asm); (case Bh => walk_at "m9"); (case Ch => assumption); (case Dh => omega); (case Eh => assumption); (case Fh => with_unfolding_all rfl); k_whole)
  refine Spec.intro ?_
  intro p loose mean mg mb dp un gd cn cs a ccd cl outer A₀ base h₀ L m hs9 gs9 ds9 ks9 os9 Q E B F X N T hk hd hu hret hout
  have m1 := W.wld; have m2 := W.dW; have m3 := W.aArr; have m4 := W.g b; have m5 := W.dg b; obtain ⟨nh, m6⟩ := W.hi b
  have e1 := O.wArrays; have e2 := O.arr b; have e3 := O.arrK; have e4 := O.gHighs b; obtain ⟨kb, e5⟩ := O.gBase b; have e6 := O.gItems b
  revert X; k_fill; intro X
  refine wpAny_call ?_
  k_dflt ktr_enter
  k_steps
  all_goals first
    | (refine' hret _ _ _ _ ⟨rfl, ⟨?z2z9, ?z3z9⟩, ?z1z9⟩ ?zFz9 ?zNz9; (case zFz9 => k_asm); (case zNz9 => k_asm); (case z1z9 => assumption); (case z2z9 => assumption); (case z3z9 => assumption))
    | (refine' hout _ _ _ _ _ _ _ _ _ _ _ ⟨rfl, rfl, ?zz9⟩ ?zGz9 ?zRz9 ?zUz9; (case zRz9 => assumption); (case zGz9 => assumption); (case zUz9 => assumption); (case zz9 => assumption))
theorem s_kindhere_b (w : World) (A : Ad) (O : A.Ok w) (news : Led) (W : Wd A news) (x : Wrd) (b : Bool) (hb : x.isT = b) (k : Tok) : Spec w 192 [.ref A.wld, .str x.word k] 2 news (GotS news (kindS b)) (fun _ _ => False) := by
  subst hb
  exact s_kindhere w A O news W x k
theorem dictO_nt {w : World} {kvs : List (Str × Value)} {o : Obj} (D : DictO w kvs o) : o.cls ≠ .type "tuple" := by
  rw [D.1.1]; intro h; injection h with h; revert h; decide
theorem s_setname_t (w : World) (A : Ad) (O : A.Ok w) (st : Led) (W : Wd A st) (x : Nm) (oN : Obj) (kvs : List (Str × Value)) (hN : (A.aN, oN) ∈ st) (D : DictO w kvs oN) (hkv : kvs.length ≤ 1000) (hx : x.isT = true) (k k2 : Tok) (y : Str) (hy : y.length ≤ 4) : Spec w 206 [.ref A.wld, .str x.word k, .str y k2] 12 st (fun v n => v = .none ∧ (∀ p ∈ st, p.1 ≠ A.aN → p ∈ n) ∧ ∃ o' u', (A.aN, o') ∈ n ∧ DictO w (stored kvs x.word u') o' ∧ VR n u' (.txt y)) (fun _ _ => False) := by
  k_with_none
  k_with "call ref" => (refine' Spec.useK (s_kindhere_b _ _ ?Aa _ ?Ba (.n x) _ ?Ca _) ?Da ?Ea ?Fa ?Ga ?Ha ?Ia ?Ja ?Ka ?_ ?_; (case Da | Ea | Fa | Ga | Ha | Ia => walk_at "u9"); (case Aa => assumption); (case Ba => first | assumption | exact W1 _); (case Ca => exact hx); (case Ja | Ka => walk_at "h9"); rotate_left; exact OutE.none; intro K9 hK9; rintro v n h' tk' ⟨k⟩ F' N'; any_goals (refine hK9 _ _ _ ?_))
  k_with "call ref" => (refine' Spec.useK (s_suited_t _ _ _ _ _ _ _ ?Ab) ?Bb ?Cb ?Db ?Eb ?Fb ?Gb ?Hb ?Ib ?_ ?_; (case Bb | Cb | Db | Eb | Fb | Gb => walk_at "u9"); (case Ab => assumption); (case Hb | Ib => walk_at "h9"); rotate_left; exact OutE.none; intro K9 hK9; rintro v n h' tk' ⟨k⟩ F' N'; any_goals (refine hK9 _ _ _ ?_))
  k_with "setItem ref" => (refine' setItem_D ?Ac ?Bc ?Cc ?Dc ?Ec ?_; (case Ac | Bc => k_asm); (case Cc => k_updF); (case Dc | Ec => assumption); k_whole; intro o9 h9 D9 F9 N9)
  refine Spec.intro ?_
  intro p loose mean mg mb dp un gd cn cs a ccd cl outer A₀ base h₀ L m hs9 gs9 ds9 ks9 os9 Q E B F X N T hk hd hu hret hout
  have hnt := dictO_nt D
  have W1 : ∀ o', Wd A ((A.aN, o') :: off st A.aN) := fun o' => W.keep O (keep_off N hN hnt (aN_mut A))
  have UP : ∀ (own : Led) o', ∀ p ∈ st, p.1 ≠ A.aN → p ∈ own ++ ((A.aN, o') :: off st A.aN) := fun own o' p hp hn => List.mem_append.mpr (.inr (.tail _ (off_mem.mpr ⟨hp, hn⟩)))
  have OFF : OwnOff (off st A.aN) [A.aN] := off_own
  have TN := tup_ne N hN hnt
  replace N := news_off N hN
  have W2 := W.offm O (aN_mut A)
  have m1 := W2.wld; have m2 := W2.dW; have m3 := W2.aK; have m4 := W2.aFl; have m5 := W2.run; have m6 := W2.dR
  have e1 := O.wNames; have e2 := O.wKinds; have e3 := O.wFields; have e4 := O.rWorld; have e5 := O.rAsked; obtain ⟨kb, e6⟩ := O.wBits; obtain ⟨kd, e7⟩ := O.wDigits
  revert X; k_fill; intro X
  refine wpAny_call ?_
  k_dflt ktr_enter
  k_steps
  all_goals first
    | (refine' hret _ _ _ _ ⟨rfl, UP [] _, _, _, .head _, ?z1z9, _, rfl⟩ ?zFz9 ?zNz9; (case zFz9 => k_asm); (case zNz9 => k_asm); (case z1z9 => assumption))
theorem s_setname_n (w : World) (A : Ad) (O : A.Ok w) (st : Led) (W : Wd A st) (x : Nm) (oN : Obj) (kvs : List (Str × Value)) (hN : (A.aN, oN) ∈ st) (D : DictO w kvs oN) (hkv : kvs.length ≤ 1000) (hx : x.isT = false) (k : Tok) (u : Value) (y : Int) (hpv : PV st u (.num y)) (hy : 0 ≤ y ∧ y ≤ 3) : Spec w 206 [.ref A.wld, .str x.word k, u] 12 st (fun v n => v = .none ∧ (∀ p ∈ st, p.1 ≠ A.aN → p ∈ n) ∧ ∃ o' u', (A.aN, o') ∈ n ∧ DictO w (stored kvs x.word u') o' ∧ VR n u' (.num y)) (fun _ _ => False) := by
  k_with_none
  k_with "call ref" => (refine' Spec.useK (s_kindhere_b _ _ ?Aa _ ?Ba (.n x) _ ?Ca _) ?Da ?Ea ?Fa ?Ga ?Ha ?Ia ?Ja ?Ka ?_ ?_; (case Da | Ea | Fa | Ga | Ha | Ia => walk_at "u9"); (case Aa => assumption); (case Ba => first | assumption | exact W1 _); (case Ca => exact hx); (case Ja | Ka => walk_at "h9"); rotate_left; exact OutE.none; intro K9 hK9; rintro v n h' tk' ⟨k⟩ F' N'; any_goals (refine hK9 _ _ _ ?_))
  k_with "call ref" => (refine' Spec.useK (s_suited_n _ _ _ y _ _ _ ?Ab ?Bb) ?Cb ?Db ?Eb ?Fb ?Gb ?Hb ?Ib ?Jb ?_ ?_; (case Cb | Db | Eb | Fb | Gb | Hb => walk_at "u9"); (case Ab => exact PV.mono (st := st) (fun p hp hc => .tail _ (off_mem.mpr ⟨hp, TN p hp hc⟩)) hpv); (case Bb => assumption); (case Ib | Jb => walk_at "h9"); rotate_left; exact OutE.none; intro K9 hK9; rintro v n h' tk' ⟨t2, k1', k2', l8⟩ F' N'; (try simp only [AllLt] at l8); any_goals (refine hK9 _ _ _ ?_))
  k_with "setItem ref" => (refine' setItem_D ?Ac ?Bc ?Cc ?Dc ?Ec ?_; (case Ac | Bc => k_asm); (case Cc => k_updF); (case Dc | Ec => assumption); k_whole; intro o9 h9 D9 F9 N9)
  refine Spec.intro ?_
  intro p loose mean mg mb dp un gd cn cs a ccd cl outer A₀ base h₀ L m hs9 gs9 ds9 ks9 os9 Q E B F X N T hk hd hu hret hout
  have hnt := dictO_nt D
  have W1 : ∀ o', Wd A ((A.aN, o') :: off st A.aN) := fun o' => W.keep O (keep_off N hN hnt (aN_mut A))
  have UP : ∀ (own : Led) o', ∀ p ∈ st, p.1 ≠ A.aN → p ∈ own ++ ((A.aN, o') :: off st A.aN) := fun own o' p hp hn => List.mem_append.mpr (.inr (.tail _ (off_mem.mpr ⟨hp, hn⟩)))
  have OFF : OwnOff (off st A.aN) [A.aN] := off_own
  have TN := tup_ne N hN hnt
  replace N := news_off N hN
  have W2 := W.offm O (aN_mut A)
  have m1 := W2.wld; have m2 := W2.dW; have m3 := W2.aK; have m4 := W2.aFl; have m5 := W2.run; have m6 := W2.dR
  have e1 := O.wNames; have e2 := O.wKinds; have e3 := O.wFields; have e4 := O.rWorld; have e5 := O.rAsked; obtain ⟨kb, e6⟩ := O.wBits; obtain ⟨kd, e7⟩ := O.wDigits
  revert X; k_fill; intro X
  refine wpAny_call ?_
  k_dflt ktr_enter
  k_steps
  all_goals first
    | (refine' hret _ _ _ _ ⟨rfl, UP [_] _, _, _, .tail _ (.head _), ?z1z9, _, _, _, rfl, .head _⟩ ?zFz9 ?zNz9; (case zFz9 => k_asm); (case zNz9 => k_asm); (case z1z9 => assumption))
theorem Wd.put {w : World} {A : Ad} {st n : Led} {a : Nat} (O : A.Ok w) (W : Wd A st) (ha : a ∈ A.muts) (h : ∀ p ∈ st, p.1 ≠ a → p ∈ n) : Wd A n := fun p hp => h p (W p hp) fun e => O.off p hp (e ▸ ha)
theorem Spec.monoN {w : World} {f : Addr} {vs : List Value} {d : Nat} {news : Led} {P P' : Value → Led → Prop} {R : Str → Led → Prop} (H : Spec w f vs d news P R) (hp : ∀ h₀ L h, News h₀ L h news → ∀ v n, P v n → P' v n) : Spec w f vs d news P' R := by
  refine Spec.intro ?_
  intro p loose mean mg mb dp un gd cn cs a ccd cl outer A₀ base h₀ L m hs9 gs9 ds9 ks9 os9 Q E B F X N T hk hd hu hret hout
  exact H _ _ _ _ _ _ _ _ _ _ _ _ _ _ _ _ _ _ _ _ _ _ B F X N T hk hd hu (fun v n h' tk' h => hret v n h' tk' (hp _ _ _ N v n h)) hout
theorem s_setname (w : World) (A : Ad) (O : A.Ok w) (st : Led) (W : Wd A st) (x : Nm) (oN : Obj) (kvs : List (Str × Value)) (hN : (A.aN, oN) ∈ st) (D : DictO w kvs oN) (hkv : kvs.length ≤ 1000) (k : Tok) (u : Value) (y : V) (hpv : PV st u y) (hy : okV x.isT y) : Spec w 206 [.ref A.wld, .str x.word k, u] 12 st (fun v n => v = .none ∧ (∀ p ∈ st, p.1 ≠ A.aN → p ∈ n) ∧ ∃ o' u', (A.aN, o') ∈ n ∧ DictO w (stored kvs x.word u') o' ∧ VR n u' y) (fun _ _ => False) := by
  cases y with
  | num y =>
    cases hx : x.isT with
    | true => rw [hx] at hy; exact hy.elim
    | false => rw [hx] at hy; exact s_setname_n w A O st W x oN kvs hN D hkv hx k u y hpv hy
  | txt y =>
    obtain ⟨k2, rfl⟩ := hpv
    cases hx : x.isT with
    | true => rw [hx] at hy; exact s_setname_t w A O st W x oN kvs hN D hkv hx k k2 y hy
    | false => rw [hx] at hy; exact hy.elim
theorem s_nofield (w : World) (A : Ad) (O : A.Ok w) (news : Led) (W : Wd A news) (x : Str) (k : Tok) : Spec w 527 [.ref A.wld, .str x k] 2 news (fun v n => news = n ∧ v = .none) (fun _ _ => False) := by
  k_with_none
  refine Spec.intro ?_
  intro p loose mean mg mb dp un gd cn cs a ccd cl outer A₀ base h₀ L m hs9 gs9 ds9 ks9 os9 Q E B F X N T hk hd hu hret hout
  have m1 := W.wld; have m2 := W.dW; have m4 := W.aFl; have m5 := W.run; have m6 := W.dR
  have e3 := O.wFields; have e4 := O.rWorld
  revert X; k_fill; intro X
  refine wpAny_call ?_
  k_dflt ktr_enter
  k_steps
  all_goals exact hret _ _ _ _ ⟨rfl, rfl⟩ (by k_asm) (by k_asm)
theorem s_givevar (w : World) (A : Ad) (O : A.Ok w) (st : Led) (W : Wd A st) (x : Nm) (oN : Obj) (kvs : List (Str × Value)) (hN : (A.aN, oN) ∈ st) (D : DictO w kvs oN) (hkv : kvs.length ≤ 1000) (k : Tok) (u : Value) (y : V) (hpv : PV st u y) (hy : okV x.isT y) : Spec w 555 [.ref A.wld, .str x.word k, u] 16 st (fun v n => v = .none ∧ (∀ p ∈ st, p.1 ≠ A.aN → p ∈ n) ∧ ∃ o' u', (A.aN, o') ∈ n ∧ DictO w (stored kvs x.word u') o' ∧ VR n u' y) (fun _ _ => False) := by
  k_with_none
  k_with "call ref" => (refine' Spec.useK (s_setname _ _ ?Aa _ ?Ba _ _ _ ?Ca ?Da ?Ea _ _ _ ?Fa ?Ga) ?Ha ?Ia ?Ja ?Ka ?La ?Ma ?Na ?Oa ?_ ?_; (case Ha | Ia | Ja | Ka | La | Ma => walk_at "u9"); (case Aa | Ba => assumption); (case Ca | Da => assumption); (case Ea | Fa | Ga => assumption); (case Na | Oa => walk_at "h9"); rotate_left; exact OutE.none; intro K9 hK9; rintro v n h' tk' ⟨rfl, LL1, LL2⟩ F' N'; have W3 := W.put O (aN_mut A) LL1; any_goals (refine hK9 _ _ _ ?_))
  k_with "call ref" => (refine' Spec.useK (s_nofield _ _ ?Ab _ ?Bb _ _) ?Cb ?Db ?Eb ?Fb ?Gb ?Hb ?Ib ?Jb ?_ ?_; (case Cb | Db | Eb | Fb | Gb | Hb => walk_at "u9"); (case Ab | Bb => assumption); (case Ib | Jb => walk_at "h9"); rotate_left; exact OutE.none; intro K9 hK9; rintro v n h' tk' ⟨rfl, rfl⟩ F' N'; any_goals (refine hK9 _ _ _ ?_))
  refine Spec.intro ?_
  intro p loose mean mg mb dp un gd cn cs a ccd cl outer A₀ base h₀ L m hs9 gs9 ds9 ks9 os9 Q E B F X N T hk hd hu hret hout
  revert X; k_fill; intro X
  refine wpAny_call ?_
  k_dflt ktr_enter
  k_steps
  all_goals (refine' hret _ _ _ _ ⟨rfl, ?z1z9, ?z2z9⟩ ?zFz9 ?zNz9; (case zFz9 => k_asm); (case zNz9 => k_asm); (case z1z9 => assumption); (case z2z9 => assumption))
theorem s_store0 (w : World) (A : Ad) (O : A.Ok w) (st : Led) (W : Wd A st) (x : Nm) (oN : Obj) (kvs : List (Str × Value)) (hN : (A.aN, oN) ∈ st) (D : DictO w kvs oN) (hkv : kvs.length ≤ 1000) (k : Tok) (u : Value) (y : V) (hpv : PV st u y) (hy : okV x.isT y) : Spec w 703 [.ref A.run, .str x.word k, u] 20 st (fun v n => v = .none ∧ (∀ p ∈ st, p.1 ≠ A.aN → p ∈ n) ∧ ∃ o' u', (A.aN, o') ∈ n ∧ DictO w (stored kvs x.word u') o' ∧ VR n u' y) (fun _ _ => False) := by
  k_with_none
  k_with "call ref" => (refine' Spec.useK (s_givevar _ _ ?Aa _ ?Ba _ _ _ ?Ca ?Da ?Ea _ _ _ ?Fa ?Ga) ?Ha ?Ia ?Ja ?Ka ?La ?Ma ?Na ?Oa ?_ ?_; (case Ha | Ia | Ja | Ka | La | Ma => walk_at "u9"); (case Aa | Ba => assumption); (case Ca | Da => assumption); (case Ea | Fa | Ga => assumption); (case Na | Oa => walk_at "h9"); rotate_left; exact OutE.none; intro K9 hK9; rintro v n h' tk' ⟨rfl, LL1, LL2⟩ F' N'; any_goals (refine hK9 _ _ _ ?_))
  refine Spec.intro ?_
  intro p loose mean mg mb dp un gd cn cs a ccd cl outer A₀ base h₀ L m hs9 gs9 ds9 ks9 os9 Q E B F X N T hk hd hu hret hout
  have m1 := W.wld; have m2 := W.dW; have m4 := W.aFl; have m5 := W.run; have m6 := W.dR
  have e3 := O.wFields; have e4 := O.rWorld
  revert X; k_fill; intro X
  refine wpAny_call ?_
  k_dflt ktr_enter
  k_steps
  all_goals (refine' hret _ _ _ _ ⟨rfl, ?z1z9, ?z2z9⟩ ?zFz9 ?zNz9; (case zFz9 => k_asm); (case zNz9 => k_asm); (case z1z9 => assumption); (case z2z9 => assumption))
theorem Mu.new_name {w : World} {A : Ad} {σ : Sg} {left : List Int} {q : Nat} {st n : Led} {x : Nm} {y : V} {u : Value} {o' : Obj} {vI vJ vS : Value} (O : A.Ok w) (M : Mu w A σ left q st) (r1 : VR st vI (σ.nm .I)) (r2 : VR st vJ (σ.nm .J)) (r3 : VR st vS (σ.nm .S))
    (h1 : ∀ p ∈ st, p.1 ≠ A.aN → p ∈ n) (h2 : ∀ p ∈ st, p.2.cls = .type "tuple" → p ∈ n) (hm : (A.aN, o') ∈ n) (D : DictO w (stored [(("I" : Str), vI), ("J", vJ), ("S$", vS)] x.word u) o') (hv : VR n u y) : Mu w A (σ.setN x y) left q n := by
  obtain ⟨n1, n2, n3, n4, n5, n6, n7, n8, n9, n10⟩ := mut_ne O
  obtain ⟨-, b, ⟨vs, m1, c1, c2⟩, ⟨us, m2, d1, d2⟩⟩ := M
  refine ⟨?_, fun c => ?_, ⟨vs, m1, h1 _ c1 (Ne.symm n4), c2⟩, ⟨us, m2, h1 _ d1 (Ne.symm n3), d2⟩⟩
  · cases x
    · exact ⟨o', u, vJ, vS, hm, D, hv, r2.mono h2, r3.mono h2⟩
    · exact ⟨o', vI, u, vS, hm, D, r1.mono h2, hv, r3.mono h2⟩
    · exact ⟨o', vI, vJ, u, hm, D, r1.mono h2, r2.mono h2, hv⟩
  · obtain ⟨v0, v1, v2, v3, n, e0, e1, e2, e3, e4⟩ := b c
    exact ⟨v0, v1, v2, v3, n, h1 _ e0 (by cases c <;> (intro e; simp_all)), e1.mono h2, e2.mono h2, e3.mono h2, e4.mono h2⟩
theorem s_store (w : World) (A : Ad) (σ : Sg) (left : List Int) (q : Nat) (O : A.Ok w) (st : Led) (W : Wd A st) (M : Mu w A σ left q st) (x : Nm) (k : Tok) (u : Value) (y : V) (hu' : VR st u y) (hy : okV x.isT y) : Spec w 703 [.ref A.run, .str x.word k, u] 20 st (fun v n => v = .none ∧ Left w A (σ.setN x y) left q st n) (fun _ _ => False) := by
  obtain ⟨oN, vI, vJ, vS, hN, D, r1, r2, r3⟩ := M.names
  refine (s_store0 w A O st W x oN _ hN D (show 3 ≤ 1000 by decide) k u y hu'.pv hy).monoN ?_
  rintro h₀ L h N v n ⟨rfl, h1, o', u', hm, D', hv⟩
  have h2 : ∀ p ∈ st, p.2.cls = .type "tuple" → p ∈ n := fun p hp hc => h1 p hp (tup_ne N hN (dictO_nt D) p hp hc)
  exact ⟨rfl, W.put O (aN_mut A) h1, M.new_name O r1 r2 r3 h1 h2 hm D' hv, fun p hp hn => h1 p hp fun e => hn (e ▸ aN_mut A), h2⟩
theorem s_setitem_t (w : World) (A : Ad) (O : A.Ok w) (st : Led) (W : Wd A st) (b : Ar) (k : Tok) (l nl : Nat) (i : Int) (ki : Tok) (hl : (l, listOf #[.int i ki] nl) ∈ st) (hlm : l ≠ A.it b) (hi0 : 0 ≤ i) (hi3 : i ≤ 3) (v0 v1 v2 v3 : Value) (ni : Nat) (hit : (A.it b, listOf #[v0, v1, v2, v3] ni) ∈ st) (hb : b.isT = true) (k2 : Tok) (y : Str) (hy : y.length ≤ 4) : Spec w 323 [.ref A.wld, .str b.word k, .ref l, .str y k2] 12 st (fun v n => v = .none ∧ (∀ p ∈ st, p.1 ≠ A.it b → p ∈ n) ∧ ∃ u' n', (A.it b, listOf (set4 i.toNat u' v0 v1 v2 v3) n') ∈ n ∧ VR n u' (.txt y)) (fun _ _ => False) := by
  k_with_none
  k_with "call ref" => (refine' Spec.useK (s_gridof _ _ ?Aa _ ?Ba _ _ _) ?Ca ?Da ?Ea ?Fa ?Ga ?Ha ?Ia ?Ja ?_ ?_; (case Ca | Da | Ea | Fa | Ga | Ha => walk_at "u9"); (case Aa => assumption); (case Ba => first | assumption | exact W1 _); (case Ia | Ja => walk_at "h9"); rotate_left; exact OutE.none; intro K9 hK9; rintro v n h' tk' ⟨rfl, rfl⟩ F' N'; any_goals (refine hK9 _ _ _ ?_))
  k_with "call ref" => (refine' Spec.useK (s_placeof _ _ ?Ab _ ?Bb _ _ _ _ _ ?Cb ?Db) ?Eb ?Fb ?Gb ?Hb ?Ib ?Jb ?Kb ?Lb ?_ ?_; (case Eb | Fb | Gb | Hb | Ib | Jb => walk_at "u9"); (case Ab => assumption); (case Bb => first | assumption | exact W1 _); (case Cb => first | assumption | walk_at "m9"); (case Db => walk_at "q9"); (case Kb | Lb => walk_at "h9"); rotate_left; (rintro c told k1 k2 k3 e di n h' tk' G ⟨rfl, rfl, hin⟩ F' R' U'; exact absurd ⟨hi0, hi3⟩ hin); rotate_left; intro K9 hK9; rintro v n h' tk' ⟨rfl, hin, k9, rfl⟩ F' N'; any_goals (refine hK9 _ _ _ ?_))
  k_with "call ref" => (refine' Spec.useK (s_suited_t _ _ _ _ _ _ _ ?Ac) ?Bc ?Cc ?Dc ?Ec ?Fc ?Gc ?Hc ?Ic ?_ ?_; (case Bc | Cc | Dc | Ec | Fc | Gc => walk_at "u9"); (case Ac => assumption); (case Hc | Ic => walk_at "h9"); rotate_left; exact OutE.none; intro K9 hK9; rintro v n h' tk' ⟨k⟩ F' N'; any_goals (refine hK9 _ _ _ ?_))
  k_with "setItem ref" => (refine' setItem_it ?Ad ?Bd ?Cd ?Dd ?Ed ?_; (case Ad | Bd => k_asm); (case Ed => k_updF); (case Cd | Dd => assumption); k_whole; intro h9 F9 N9)
  refine Spec.intro ?_
  intro p loose mean mg mb dp un gd cn cs a ccd cl outer A₀ base h₀ L m hs9 gs9 ds9 ks9 os9 Q E B F X N T hk hd hu hret hout
  have W1 : ∀ o', Wd A ((A.it b, o') :: off st (A.it b)) := fun o' => W.keep O (keep_off N hit list_nt (it_mut A b))
  have UP : ∀ (own : Led) o', ∀ p ∈ st, p.1 ≠ A.it b → p ∈ own ++ ((A.it b, o') :: off st (A.it b)) := fun own o' p hp hn => List.mem_append.mpr (.inr (.tail _ (off_mem.mpr ⟨hp, hn⟩)))
  have OFF : OwnOff (off st (A.it b)) [A.it b] := off_own
  have hl' : (l, listOf #[.int i ki] nl) ∈ off st (A.it b) := off_mem.mpr ⟨hl, hlm⟩
  have TN := tup_ne N hit list_nt
  replace N := news_off N hit
  have W2 := W.offm O (it_mut A b)
  have m1 := W2.wld; have m2 := W2.dW; have m3 := W2.aArr; have m4 := W2.g b; have m5 := W2.dg b; obtain ⟨nh, m6⟩ := W2.hi b
  have e1 := O.wArrays; have e2 := O.arr b; have e3 := O.arrK; have e4 := O.gHighs b; obtain ⟨kb, e5⟩ := O.gBase b; have e6 := O.gItems b; obtain ⟨kb2, e7⟩ := O.wBits; obtain ⟨kd, e8⟩ := O.wDigits; obtain ⟨kk, e9⟩ := O.gKind b
  simp only [hb, if_true] at e9
  revert X; k_fill; intro X
  refine wpAny_call ?_
  k_dflt ktr_enter
  k_steps
  all_goals first
    | (refine' hret _ _ _ _ ⟨rfl, UP [] _, _, _, .head _, _, rfl⟩ ?zFz9 ?zNz9; (case zFz9 => k_asm); (case zNz9 => k_asm))
theorem s_setitem_n (w : World) (A : Ad) (O : A.Ok w) (st : Led) (W : Wd A st) (b : Ar) (k : Tok) (l nl : Nat) (i : Int) (ki : Tok) (hl : (l, listOf #[.int i ki] nl) ∈ st) (hlm : l ≠ A.it b) (hi0 : 0 ≤ i) (hi3 : i ≤ 3) (v0 v1 v2 v3 : Value) (ni : Nat) (hit : (A.it b, listOf #[v0, v1, v2, v3] ni) ∈ st) (hb : b.isT = false) (u : Value) (y : Int) (hpv : PV st u (.num y)) (hy : 0 ≤ y ∧ y ≤ 3) : Spec w 323 [.ref A.wld, .str b.word k, .ref l, u] 12 st (fun v n => v = .none ∧ (∀ p ∈ st, p.1 ≠ A.it b → p ∈ n) ∧ ∃ u' n', (A.it b, listOf (set4 i.toNat u' v0 v1 v2 v3) n') ∈ n ∧ VR n u' (.num y)) (fun _ _ => False) := by
  k_with_none
  k_with "call ref" => (refine' Spec.useK (s_gridof _ _ ?Aa _ ?Ba _ _ _) ?Ca ?Da ?Ea ?Fa ?Ga ?Ha ?Ia ?Ja ?_ ?_; (case Ca | Da | Ea | Fa | Ga | Ha => walk_at "u9"); (case Aa => assumption); (case Ba => first | assumption | exact W1 _); (case Ia | Ja => walk_at "h9"); rotate_left; exact OutE.none; intro K9 hK9; rintro v n h' tk' ⟨rfl, rfl⟩ F' N'; any_goals (refine hK9 _ _ _ ?_))
  k_with "call ref" => (refine' Spec.useK (s_placeof _ _ ?Ab _ ?Bb _ _ _ _ _ ?Cb ?Db) ?Eb ?Fb ?Gb ?Hb ?Ib ?Jb ?Kb ?Lb ?_ ?_; (case Eb | Fb | Gb | Hb | Ib | Jb => walk_at "u9"); (case Ab => assumption); (case Bb => first | assumption | exact W1 _); (case Cb => first | assumption | walk_at "m9"); (case Db => walk_at "q9"); (case Kb | Lb => walk_at "h9"); rotate_left; (rintro c told k1 k2 k3 e di n h' tk' G ⟨rfl, rfl, hin⟩ F' R' U'; exact absurd ⟨hi0, hi3⟩ hin); rotate_left; intro K9 hK9; rintro v n h' tk' ⟨rfl, hin, k9, rfl⟩ F' N'; any_goals (refine hK9 _ _ _ ?_))
  k_with "call ref" => (refine' Spec.useK (s_suited_n _ _ _ y _ _ _ ?Ac ?Bc) ?Cc ?Dc ?Ec ?Fc ?Gc ?Hc ?Ic ?Jc ?_ ?_; (case Cc | Dc | Ec | Fc | Gc | Hc => walk_at "u9"); (case Ac => exact PV.mono (st := st) (fun p hp hc => .tail _ (off_mem.mpr ⟨hp, TN p hp hc⟩)) hpv); (case Bc => assumption); (case Ic | Jc => walk_at "h9"); rotate_left; exact OutE.none; intro K9 hK9; rintro v n h' tk' ⟨t2, k1', k2', l8⟩ F' N'; (try simp only [AllLt] at l8); any_goals (refine hK9 _ _ _ ?_))
  k_with "setItem ref" => (refine' setItem_it ?Ad ?Bd ?Cd ?Dd ?Ed ?_; (case Ad | Bd => k_asm); (case Ed => k_updF); (case Cd | Dd => assumption); k_whole; intro h9 F9 N9)
  refine Spec.intro ?_
  intro p loose mean mg mb dp un gd cn cs a ccd cl outer A₀ base h₀ L m hs9 gs9 ds9 ks9 os9 Q E B F X N T hk hd hu hret hout
  have W1 : ∀ o', Wd A ((A.it b, o') :: off st (A.it b)) := fun o' => W.keep O (keep_off N hit list_nt (it_mut A b))
  have UP : ∀ (own : Led) o', ∀ p ∈ st, p.1 ≠ A.it b → p ∈ own ++ ((A.it b, o') :: off st (A.it b)) := fun own o' p hp hn => List.mem_append.mpr (.inr (.tail _ (off_mem.mpr ⟨hp, hn⟩)))
  have OFF : OwnOff (off st (A.it b)) [A.it b] := off_own
  have hl' : (l, listOf #[.int i ki] nl) ∈ off st (A.it b) := off_mem.mpr ⟨hl, hlm⟩
  have TN := tup_ne N hit list_nt
  replace N := news_off N hit
  have W2 := W.offm O (it_mut A b)
  have m1 := W2.wld; have m2 := W2.dW; have m3 := W2.aArr; have m4 := W2.g b; have m5 := W2.dg b; obtain ⟨nh, m6⟩ := W2.hi b
  have e1 := O.wArrays; have e2 := O.arr b; have e3 := O.arrK; have e4 := O.gHighs b; obtain ⟨kb, e5⟩ := O.gBase b; have e6 := O.gItems b; obtain ⟨kb2, e7⟩ := O.wBits; obtain ⟨kd, e8⟩ := O.wDigits; obtain ⟨kk, e9⟩ := O.gKind b
  simp only [hb, Bool.false_eq_true, if_false] at e9
  revert X; k_fill; intro X
  refine wpAny_call ?_
  k_dflt ktr_enter
  k_steps
  all_goals first
    | (refine' hret _ _ _ _ ⟨rfl, UP [_] _, _, _, .tail _ (.head _), _, _, _, rfl, .head _⟩ ?zFz9 ?zNz9; (case zFz9 => k_asm); (case zNz9 => k_asm))
theorem off1_mem {D : Addr} {l : Led} (h : LCg.Off1 D l) : ∀ p ∈ l, p.1 ≠ D := by
  induction l with
  | nil => intro p hp; cases hp
  | cons x r ih =>
    intro p hp
    rcases List.mem_cons.mp hp with rfl | hp
    · exact h.1
    · exact ih h.2 p hp
theorem s_whole (w : World) (news : Led) (u : Value) (x : Int) (k3 : Tok) (hu : PV news u (.num x)) (hx : -9 ≤ x ∧ x ≤ 9) : Spec w 128 [u, .int 16 k3] 4 news (GotI news x) (fun _ _ => False) := by
  rcases hu with ⟨k, rfl⟩ | ⟨t, k1, k2, rfl, ht⟩
  · exact s_whole_i w news x k k3 hx
  · exact s_whole_d w news t x k1 k2 k3 ht hx
theorem s_setitem (w : World) (A : Ad) (O : A.Ok w) (st : Led) (W : Wd A st) (b : Ar) (k : Tok) (l nl : Nat) (i : Int) (ki : Tok) (hl : (l, listOf #[.int i ki] nl) ∈ st) (hlm : l ≠ A.it b) (hi0 : 0 ≤ i) (hi3 : i ≤ 3) (v0 v1 v2 v3 : Value) (ni : Nat) (hit : (A.it b, listOf #[v0, v1, v2, v3] ni) ∈ st)
    (u : Value) (y : V) (hpv : PV st u y) (hy : okV b.isT y) : Spec w 323 [.ref A.wld, .str b.word k, .ref l, u] 12 st (fun v n => v = .none ∧ (∀ p ∈ st, p.1 ≠ A.it b → p ∈ n) ∧ ∃ u' n', (A.it b, listOf (set4 i.toNat u' v0 v1 v2 v3) n') ∈ n ∧ VR n u' y) (fun _ _ => False) := by
  cases y with
  | num y =>
    cases hx : b.isT with
    | true => rw [hx] at hy; exact hy.elim
    | false => rw [hx] at hy; exact s_setitem_n w A O st W b k l nl i ki hl hlm hi0 hi3 v0 v1 v2 v3 ni hit hx u y hpv hy
  | txt y =>
    obtain ⟨k2, rfl⟩ := hpv
    cases hx : b.isT with
    | true => rw [hx] at hy; exact s_setitem_t w A O st W b k l nl i ki hl hlm hi0 hi3 v0 v1 v2 v3 ni hit hx k2 y hy
    | false => rw [hx] at hy; exact hy.elim
theorem s_put0 (w : World) (A : Ad) (O : A.Ok w) (st : Led) (W : Wd A st) (b : Ar) (k : Tok) (l nl : Nat) (z : Value) (i : Int) (hl : (l, listOf #[z] nl) ∈ st) (hz : PV st z (.num i)) (hi0 : 0 ≤ i) (hi3 : i ≤ 3) (v0 v1 v2 v3 : Value) (ni : Nat) (hit : (A.it b, listOf #[v0, v1, v2, v3] ni) ∈ st) (u : Value) (y : V) (hpv : PV st u y) (hy : okV b.isT y) : Spec w 708 [.ref A.run, .str b.word k, .ref l, u] 20 st (fun v n => v = .none ∧ (∀ p ∈ st, p.1 ≠ A.it b → p ∈ n) ∧ ∃ u' n', (A.it b, listOf (set4 i.toNat u' v0 v1 v2 v3) n') ∈ n ∧ VR n u' y) (fun _ _ => False) := by
  k_with_none
  k_with "CompEnd" => (refine' ⟨_, _, _, rfl, ?Aa, ?Ba, ?Ca, ?Da, ?_⟩; (case Aa | Ba | Ca => assumption); (case Da => first | exact trivial | k_mem | (dsimp only; k_mem) | lcg_src))
  k_with "call ref" => (refine' Spec.useK (s_whole w _ _ i _ ?Ab ?Bb) ?Cb ?Db ?Eb ?Fb ?Gb ?Hb ?Ib ?Jb ?_ ?_; (case Cb | Db | Eb | Fb | Gb | Hb => walk_at "u9"); (case Ab => first | assumption | exact PV.mono (st := st) (fun p hp _ => by repeat (first | exact hp | refine List.Mem.tail _ ?_)) hz); (case Bb => walk_at "q9"); (case Ib => first | exact hd_ok hd rfl | (show dp + 1 + _ < _; first | exact hd_ok hd rfl | omega)); (case Jb => first | exact hu_ok hu rfl | (show un + 3 + _ < _; first | exact hu_ok hu rfl | omega)); rotate_left; exact OutE.none; intro K9 hK9; rintro v n h' tk' ⟨k⟩ F' N'; any_goals (refine hK9 _ _ _ ?_))
  k_with "call ref" => (refine' Spec.useK (s_setitem w A ?Ac _ ?Bc b _ _ _ i _ ?Cc ?Dc ?Ec ?Fc v0 v1 v2 v3 ni ?Gc _ y ?Hc ?Ic) ?Jc ?Kc ?Lc ?Mc ?Nc ?Oc ?Pc ?Qc ?_ ?_; (case Jc | Kc | Lc | Mc | Nc | Oc => walk_at "u9"); (case Ac => assumption); (case Bc => exact W.cons.cons); (case Gc => exact .tail _ (.tail _ hit)); (case Cc => first | exact List.Mem.head _ | walk_at "m9"); (case Dc => ((with_reducible rename _ ∧ LCg.Off1 _ st => hO1); exact fun e => (off1_mem hO1.2 _ hit) e.symm)); (case Ec | Fc => assumption); (case Hc => exact PV.mono (st := st) (fun p hp _ => .tail _ (.tail _ hp)) hpv); (case Ic => assumption); (case Pc => first | exact hd_ok hd rfl | (show dp + 1 + _ < _; first | exact hd_ok hd rfl | omega)); (case Qc => first | exact hu_ok hu rfl | (show un + 3 + _ < _; first | exact hu_ok hu rfl | omega)); rotate_left; exact OutE.none; intro K9 hK9; rintro v n h' tk' ⟨rfl, LL1, LL2⟩ F' N'; have LL3 : (∀ p ∈ st, p.1 ≠ A.it b → p ∈ n) := (fun p hp hn => LL1 p (.tail _ (.tail _ hp)) hn); any_goals (refine hK9 _ _ _ ?_))
  refine Spec.intro ?_
  intro p loose mean mg mb dp un gd cn cs a ccd cl outer A₀ base h₀ L m hs9 gs9 ds9 ks9 os9 Q E B F X N T hk hd hu hret hout
  have m5 := W.run; have m6 := W.dR
  have e4 := O.rWorld; obtain ⟨kb, e6⟩ := O.rBits
  revert X; k_fill; intro X
  refine wpAny_call ?_
  k_dflt ((refine' code_defC ?k1z9 ?k2z9 ?k3z9 ?k4z9 ?k5z9 ?kAz9 ?kFz9 ?kKz9 ?k6z9 ?k7z9 ?k8z9 ?k9z9 ?kBz9 ?kDz9 ?_ ?c2z9 ?c3z9 ?c4z9; (case kAz9 => exact rfl); (case kFz9 => exact rfl); (case kKz9 => assumption); (case k1z9 => k_asm); (case k2z9 => k_asm); (case k3z9 => k_asm); (case k4z9 => k_asm); (case k5z9 => k_asm); (case k6z9 => k_is); (case k7z9 => k_is); (case k8z9 => (show dp < _; exact hd_lt hd)); (case k9z9 => first | exact BindsTo.of_eq rfl | exact binds_K (by k_in) rfl (by k_is) rfl rfl rfl); (case kBz9 => exact rfl); (case kDz9 => decide +kernel); (case c2z9 => exact rfl); (case c3z9 => exact rfl); (case c4z9 => exact rfl); k_whole; intro g' L' h' tk' cells' FG' F' N' Y' B' X' T' l1; (first | k_lt l1 | replace l1 := allLt_of l1); k_cells Y'; (try simp only [List.cons_append, List.nil_append] at N'); (try dsimp only); (try k_fold)))
  k_steps
  all_goals first
    | (refine' hret _ _ _ _ ⟨rfl, ?z1z9, ?z2z9⟩ ?zFz9 ?zNz9; (case zFz9 => k_asm); (case zNz9 => k_asm); (case z1z9 => assumption); (case z2z9 => assumption))
theorem s_put (w : World) (A : Ad) (σ : Sg) (left : List Int) (q : Nat) (O : A.Ok w) (st : Led) (W : Wd A st) (M : Mu w A σ left q st) (b : Ar) (k : Tok) (l nl : Nat) (z : Value) (i : Int) (hl : (l, listOf #[z] nl) ∈ st) (hz : PV st z (.num i)) (hi0 : 0 ≤ i) (hi3 : i ≤ 3) (u : Value) (y : V) (hu' : VR st u y) (hy : okV b.isT y) : Spec w 708 [.ref A.run, .str b.word k, .ref l, u] 20 st (fun v n => v = .none ∧ Left w A (σ.setA b i.toNat y) left q st n) (fun _ _ => False) := by
  obtain ⟨v0, v1, v2, v3, ni, hit, r0, r1, r2, r3⟩ := M.items b
  refine (s_put0 w A O st W b k l nl z i hl hz hi0 hi3 v0 v1 v2 v3 ni hit u y hu'.pv hy).monoN ?_
  rintro h₀ L h N v n ⟨rfl, h1, u', n', hm, hv⟩
  have h2 : ∀ p ∈ st, p.2.cls = .type "tuple" → p ∈ n := fun p hp hc => h1 p hp (tup_ne N hit list_nt p hp hc)
  exact ⟨rfl, W.put O (it_mut A b) h1, M.new_item O r0 r1 r2 r3 h1 h2 hm hv, fun p hp hn => h1 p hp fun e => hn (e ▸ it_mut A b), h2⟩
theorem s_itemof (w : World) (A : Ad) (σ : Sg) (left : List Int) (q : Nat) (O : A.Ok w) (st : Led) (W : Wd A st) (M : Mu w A σ left q st) (hq : q ≤ 10000) (b : Ar) (k : Tok) (l nl : Nat) (z : Value) (i : Int) (hl : (l, listOf #[z] nl) ∈ st) (hlm : l ≠ A.ask) (hz : PV st z (.num i)) (hi : -9 ≤ i ∧ i ≤ 9) : Spec w 661 [.ref A.run, .str b.word k, .ref l] 14 st (fun v n => Left w A σ left (q + 1) st n ∧ (0 ≤ i ∧ i ≤ 3) ∧ VR n v (σ.ar b i.toNat)) (fun c n => c = "BS" ∧ Left w A σ left (q + 1) st n ∧ ¬ (0 ≤ i ∧ i ≤ 3)) := by
  k_with_none
  k_with "call builtin:list.append" => (k_here; (with_reducible show wpAny _ _ (call (Value.builtin _) [Value.ref _, _]) _ _ _); k_dflt (refine' append_K ?Aa ?Ba ?Ca ?_ ?Da; (case Aa | Ba => k_asm); (case Ca => k_upd); (case Da => first | size_fits | (simp only [sizeLine_eq]; omega) | (simp only [List.size_toArray, Array.size_push, sizeLine_eq]; omega)); k_whole); intro h' F' N'; (try k_sweep))
  k_with "CompEnd" => (refine' ⟨_, _, _, rfl, ?Ab, ?Bb, ?Cb, ?Db, ?_⟩; (case Ab | Bb | Cb => assumption); (case Db => first | exact trivial | k_mem | (dsimp only; k_mem) | lcg_src))
  k_with "call ref" => (refine' Spec.useK (s_whole w _ _ i _ ?Ac ?Bc) ?Cc ?Dc ?Ec ?Fc ?Gc ?Hc ?Ic ?Jc ?_ ?_; (case Cc | Dc | Ec | Fc | Gc | Hc => walk_at "u9"); (case Ac => first | assumption | exact PV.mono (st := st) (fun p hp hc => by have hp2 := (K1 (listOf us nu)).2 p hp hc; repeat (first | exact hp2 | refine List.Mem.tail _ ?_)) hz); (case Bc => walk_at "q9"); (case Ic => first | exact hd_ok hd rfl | (show dp + 1 + _ < _; first | exact hd_ok hd rfl | omega)); (case Jc => first | exact hu_ok hu rfl | (show un + 3 + _ < _; first | exact hu_ok hu rfl | omega)); rotate_left; exact OutE.none; intro K9 hK9; rintro v n h' tk' ⟨k⟩ F' N'; any_goals (refine hK9 _ _ _ ?_))
  k_with "call ref" => (refine' Spec.useK (s_getitem w A σ ?Ad _ ?Bd b v0 v1 v2 v3 ni ?Cd ?Dd ?Ed ?Fd ?Gd _ _ i _ _ ?Hd ?Id) ?Jd ?Kd ?Ld ?Md ?Nd ?Od ?Pd ?Qd ?_ ?_; (case Jd | Kd | Ld | Md | Nd | Od => walk_at "u9"); (case Ad => assumption); (case Bd => exact (W1 _).cons.cons.cons); (case Cd => exact .tail _ (.tail _ (.tail _ (.tail _ hit2)))); (case Dd => exact VR.mono (st := st) (fun p hp hc => .tail _ (.tail _ (.tail _ ((K1 _).2 p hp hc)))) r0); (case Ed => exact VR.mono (st := st) (fun p hp hc => .tail _ (.tail _ (.tail _ ((K1 _).2 p hp hc)))) r1); (case Fd => exact VR.mono (st := st) (fun p hp hc => .tail _ (.tail _ (.tail _ ((K1 _).2 p hp hc)))) r2); (case Gd => exact VR.mono (st := st) (fun p hp hc => .tail _ (.tail _ (.tail _ ((K1 _).2 p hp hc)))) r3); (case Hd => first | exact .head _ | exact .tail _ (.head _) | exact .tail _ (.tail _ (.head _)) | walk_at "m9"); (case Id => walk_at "q9"); (case Pd => first | exact hd_ok hd rfl | (show dp + 1 + _ < _; first | exact hd_ok hd rfl | omega)); (case Qd => first | exact hu_ok hu rfl | (show un + 3 + _ < _; first | exact hu_ok hu rfl | omega)); rotate_left; (rintro c told k1 k2 k3 e di n h' tk' G ⟨rfl, rfl, hin⟩ F' R' U'); rotate_left; intro K9 hK9; rintro v n h' tk' ⟨rfl, hin, hvr⟩ F' N'; any_goals (refine hK9 _ _ _ ?_))
  refine Spec.intro ?_
  intro p loose mean mg mb dp un gd cn cs a ccd cl outer A₀ base h₀ L m hs9 gs9 ds9 ks9 os9 Q E B F X N T hk hd hu hret hout
  obtain ⟨v0, v1, v2, v3, ni, hit, r0, r1, r2, r3⟩ := M.items b
  obtain ⟨us, nu, hA, hs⟩ := M.asked
  have W1 : ∀ o', Wd A ((A.ask, o') :: off st A.ask) := fun o' => W.keep O (keep_off N hA list_nt (ask_mut A))
  have K1 : ∀ o', Keep A st ((A.ask, o') :: off st A.ask) := fun o' => keep_off N hA list_nt (ask_mut A)
  have MP : ∀ vs' n', vs'.size ≤ q + 1 → Mu w A σ left (q + 1) ((A.ask, listOf vs' n') :: off st A.ask) := fun vs' n' h => M.put_ask O N hA h (Nat.le_succ q)
  have OFF : OwnOff (off st A.ask) [A.ask] := off_own
  have nn := mut_ne O
  have hit2 : (A.it b, listOf #[v0, v1, v2, v3] ni) ∈ off st A.ask := off_mem.mpr ⟨hit, by cases b <;> (first | exact nn.2.2.2.2.2.1 | exact nn.2.2.2.2.2.2.2.1)⟩
  have hl2 : (l, listOf #[z] nl) ∈ off st A.ask := off_mem.mpr ⟨hl, hlm⟩
  clear nn
  replace N := news_off N hA
  have W2 := W.offm O (ask_mut A)
  have m1 := W2.wld; have m2 := W2.dW; have m5 := W2.run; have m6 := W2.dR
  have e4 := O.rWorld; have e5 := O.rAsked; obtain ⟨kb, e6⟩ := O.rBits
  revert X; k_fill; intro X
  refine wpAny_call ?_
  k_dflt ((refine' code_defC ?k1z9 ?k2z9 ?k3z9 ?k4z9 ?k5z9 ?kAz9 ?kFz9 ?kKz9 ?k6z9 ?k7z9 ?k8z9 ?k9z9 ?kBz9 ?kDz9 ?_ ?c2z9 ?c3z9 ?c4z9; (case kAz9 => exact rfl); (case kFz9 => exact rfl); (case kKz9 => assumption); (case k1z9 => k_asm); (case k2z9 => k_asm); (case k3z9 => k_asm); (case k4z9 => k_asm); (case k5z9 => k_asm); (case k6z9 => k_is); (case k7z9 => k_is); (case k8z9 => (show dp < _; exact hd_lt hd)); (case k9z9 => first | exact BindsTo.of_eq rfl | exact binds_K (by k_in) rfl (by k_is) rfl rfl rfl); (case kBz9 => exact rfl); (case kDz9 => decide +kernel); (case c2z9 => exact rfl); (case c3z9 => exact rfl); (case c4z9 => exact rfl); k_whole; intro g' L' h' tk' cells' FG' F' N' Y' B' X' T' l1; (first | k_lt l1 | replace l1 := allLt_of l1); k_cells Y'; (try simp only [List.cons_append, List.nil_append] at N'); (try dsimp only); (try k_fold)))
  k_steps
  all_goals first
    | (refine' hret _ _ _ _ ⟨⟨(W1 _).cons.cons.cons, (MP _ _ ?s1z9).cons.cons.cons, (K1 _).trans ((Keep.cons.trans Keep.cons).trans Keep.cons)⟩, ?z2z9, ?z3z9⟩ ?zFz9 ?zNz9; (case zFz9 => k_asm); (case zNz9 => k_asm); (case z2z9 => assumption); (case z3z9 => assumption); (case s1z9 => rw [Array.size_push]; omega))
    | (refine' hout _ _ _ _ _ _ _ _ _ _ _ ⟨rfl, ⟨(W1 _).cons.cons.cons, (MP _ _ ?s1z9).cons.cons.cons, (K1 _).trans ((Keep.cons.trans Keep.cons).trans Keep.cons)⟩, ?zz9⟩ ?zGz9 ?zRz9 ?zUz9; (case zRz9 => assumption); (case zGz9 => assumption); (case zUz9 => assumption); (case zz9 => assumption); (case s1z9 => rw [Array.size_push]; omega))
theorem s_ans_nil (w : World) (A : Ad) (σ : Sg) (left : List Int) (q : Nat) (O : A.Ok w) (st : Led) (W : Wd A st) (M : Mu w A σ left q st) (hq : q ≤ 10000) (k : Tok) (l nl : Nat) (hl : (l, listOf #[] nl) ∈ st) (hl1 : l ≠ A.ask) (hl3 : l ≠ A.fnr) (nf : Nat) (hI : IntsAre ([] : List Value) ([] : List Int)) (hF : (A.fnr, listOf ([] : List Value).toArray nf) ∈ st) : Spec w 689 [.ref A.run, .str "FNR" k, .ref l] 8 st (fun v n => False) (fun c n => c = "UF" ∧ Left w A σ [] (q + 1) st n) := by
  k_with_none
  k_with "call builtin:list.append" => (k_here; (with_reducible show wpAny _ _ (call (Value.builtin _) [Value.ref _, _]) _ _ _); k_dflt (refine' append_K ?Aa ?Ba ?Ca ?_ ?Da; (case Aa | Ba => k_asm); (case Ca => k_upd); (case Da => first | size_fits | (simp only [sizeLine_eq]; omega) | (simp only [List.size_toArray, Array.size_push, sizeLine_eq]; omega)); k_whole); intro h' F' N'; (try k_sweep))
  k_with "call builtin:dict.get" => (k_here; (with_reducible show wpAny _ _ (call (Value.builtin _) [Value.ref _, Value.str _ _, _]) _ _ _); k_dflt (refine' call_getL ?Ab ?Bb ?Cb ?Db ?Eb ?_; (case Ab | Bb => k_asm); (case Cb => k_mem); (case Db => first | exact trivial | assumption); (case Eb => first | assumption | exact rfl); k_whole; try dsimp only [Option.getD]))
  k_with "call ref" => (refine Made.use (made2 _ _ _) (by k_asm) (by k_asm) (by k_asm) (by k_asm) (by k_asm) (by first | assumption | rfl) ?Ac ?Bc ?_; (case Ac | Bc => walk_at "h9"); intro e di t k1 k2 h' tk' F' N' hne; refine ⟨_, _, _, rfl, Frag.In.keeps (by k_asm) (Fr.keep F'), (N' _ (.head _)).1, ?_⟩)
  refine Spec.intro ?_
  intro p loose mean mg mb dp un gd cn cs a ccd cl outer A₀ base h₀ L m hs9 gs9 ds9 ks9 os9 Q E B F X N T hk hd hu hret hout
  obtain ⟨us, nu, hA, hs⟩ := M.asked
  have W1 : ∀ o o', Wd A ((A.ask, o) :: (A.fnr, o') :: off (off st A.ask) A.fnr) := fun o o' => W.keep O (keep_both N hA hF)
  have K1 : ∀ o o', Keep A st ((A.ask, o) :: (A.fnr, o') :: off (off st A.ask) A.fnr) := fun o o' => keep_both N hA hF
  have MP : ∀ us' nu' vs' nf' left', us'.size ≤ q + 1 → IntsAre vs' left' → Mu w A σ left' (q + 1) ((A.ask, listOf us' nu') :: (A.fnr, listOf vs'.toArray nf') :: off (off st A.ask) A.fnr) := fun us' nu' vs' nf' left' h1 h2 => M.put_both O N hA hF h1 h2
  have OFF : OwnOff (off (off st A.ask) A.fnr) [A.ask, A.fnr] := fun p hp b hb => by
    rcases List.mem_cons.mp hb with rfl | hb
    · exact (off_mem.mp (off_mem.mp hp).1).2
    · rw [List.mem_singleton.mp hb]; exact (off_mem.mp hp).2
  have n10 := (mut_ne O).2.2.2.2.2.2.2.2.2
  replace N := news_off2 (news_off N hA) (off_mem.mpr ⟨hF, Ne.symm n10⟩)
  have W2 := (W.offm O (ask_mut A)).offm O (fnr_mut A)
  have hl2 : (l, listOf #[] nl) ∈ off (off st A.ask) A.fnr := off_mem.mpr ⟨off_mem.mpr ⟨hl, hl1⟩, hl3⟩
  have m5 := W2.run; have m6 := W2.dR; have m7 := W2.ans
  have e4 := O.rWorld; have e5 := O.rAsked; have e6 := O.rAnswers; have e7 := O.ansK; have e8 := O.ansF
  revert X; k_fill; intro X
  refine wpAny_call ?_
  k_dflt ktr_enter
  k_steps
  all_goals (refine' hout _ _ _ _ _ _ _ _ _ _ _ ⟨rfl, ⟨(W1 _ _).cons.cons.cons, (MP _ _ [] _ _ ?s1z9 hI).cons.cons.cons, (K1 _ _).trans ((Keep.cons.trans Keep.cons).trans Keep.cons)⟩⟩ ?zGz9 ?zRz9 ?zUz9; (case zRz9 => assumption); (case zGz9 => assumption); (case zUz9 => assumption); (case s1z9 => rw [Array.size_push]; omega))
theorem s_ans_cons (w : World) (A : Ad) (σ : Sg) (left : List Int) (q : Nat) (O : A.Ok w) (st : Led) (W : Wd A st) (M : Mu w A σ left q st) (hq : q ≤ 10000) (k : Tok) (l nl : Nat) (hl : (l, listOf #[] nl) ∈ st) (hl1 : l ≠ A.ask) (hl3 : l ≠ A.fnr) (nf : Nat) (v0 : Value) (vs : List Value) (hvs : vs.length ≤ 100) (hF : (A.fnr, listOf (v0 :: vs).toArray nf) ∈ st) (r : List Int) (hI : IntsAre vs r) : Spec w 689 [.ref A.run, .str "FNR" k, .ref l] 8 st (fun v n => v = v0 ∧ Left w A σ r (q + 1) st n) (fun c n => False) := by
  k_with_none
  k_with "call builtin:list.append" => (k_here; (with_reducible show wpAny _ _ (call (Value.builtin _) [Value.ref _, _]) _ _ _); k_dflt (refine' append_K ?Aa ?Ba ?Ca ?_ ?Da; (case Aa | Ba => k_asm); (case Ca => k_upd); (case Da => first | size_fits | (simp only [sizeLine_eq]; omega) | (simp only [List.size_toArray, Array.size_push, sizeLine_eq]; omega)); k_whole); intro h' F' N'; (try k_sweep))
  k_with "call builtin:dict.get" => (k_here; (with_reducible show wpAny _ _ (call (Value.builtin _) [Value.ref _, Value.str _ _, _]) _ _ _); k_dflt (refine' call_getL ?Ab ?Bb ?Cb ?Db ?Eb ?_; (case Ab | Bb => k_asm); (case Cb => k_mem); (case Db => first | exact trivial | assumption); (case Eb => first | assumption | exact rfl); k_whole; try dsimp only [Option.getD]))
  k_with "call ref" => (refine Made.use (made2 _ _ _) (by k_asm) (by k_asm) (by k_asm) (by k_asm) (by k_asm) (by first | assumption | rfl) ?Ac ?Bc ?_; (case Ac | Bc => walk_at "h9"); intro e di t k1 k2 h' tk' F' N' hne; refine ⟨_, _, _, rfl, Frag.In.keeps (by k_asm) (Fr.keep F'), (N' _ (.head _)).1, ?_⟩)
  k_with "call builtin:len" => (refine' KM.len_K (n := vs.length + 1) ?Ad ?Bd ?Cd ?Dd ?_; (case Ad => k_asm); (case Bd => walk_at "m9"); (case Cd => simp); (case Dd => omega); k_whole)
  k_with "call builtin:list.pop" => (refine' kl_popAt (its := (v0 :: vs).toArray) (k := 0) (p := []) (q := vs) (y := v0) ?Ae ?Be ?Ce ?De ?Ee ?Fe ?Ge ?_; (case Ae | Be => k_asm); (case Ce => decide); (case De => simp [seqIndex?]); (case Ee => rfl); (case Fe => k_upd); (case Ge => (simp [sizeLine_eq]; omega)); k_whole; intro h9 F9 N9; (try simp only [List.nil_append] at N9))
  refine Spec.intro ?_
  intro p loose mean mg mb dp un gd cn cs a ccd cl outer A₀ base h₀ L m hs9 gs9 ds9 ks9 os9 Q E B F X N T hk hd hu hret hout
  obtain ⟨us, nu, hA, hs⟩ := M.asked
  have W1 : ∀ o o', Wd A ((A.ask, o) :: (A.fnr, o') :: off (off st A.ask) A.fnr) := fun o o' => W.keep O (keep_both N hA hF)
  have K1 : ∀ o o', Keep A st ((A.ask, o) :: (A.fnr, o') :: off (off st A.ask) A.fnr) := fun o o' => keep_both N hA hF
  have MP : ∀ us' nu' vs' nf' left', us'.size ≤ q + 1 → IntsAre vs' left' → Mu w A σ left' (q + 1) ((A.ask, listOf us' nu') :: (A.fnr, listOf vs'.toArray nf') :: off (off st A.ask) A.fnr) := fun us' nu' vs' nf' left' h1 h2 => M.put_both O N hA hF h1 h2
  have OFF : OwnOff (off (off st A.ask) A.fnr) [A.ask, A.fnr] := fun p hp b hb => by
    rcases List.mem_cons.mp hb with rfl | hb
    · exact (off_mem.mp (off_mem.mp hp).1).2
    · rw [List.mem_singleton.mp hb]; exact (off_mem.mp hp).2
  have n10 := (mut_ne O).2.2.2.2.2.2.2.2.2
  replace N := news_off2 (news_off N hA) (off_mem.mpr ⟨hF, Ne.symm n10⟩)
  have W2 := (W.offm O (ask_mut A)).offm O (fnr_mut A)
  have hl2 : (l, listOf #[] nl) ∈ off (off st A.ask) A.fnr := off_mem.mpr ⟨off_mem.mpr ⟨hl, hl1⟩, hl3⟩
  have m5 := W2.run; have m6 := W2.dR; have m7 := W2.ans
  have e4 := O.rWorld; have e5 := O.rAsked; have e6 := O.rAnswers; have e7 := O.ansK; have e8 := O.ansF
  revert X; k_fill; intro X
  refine wpAny_call ?_
  k_dflt ktr_enter
  k_steps
  all_goals first
    | (exfalso; omega)
    | (refine' hret _ _ _ _ ⟨rfl, ⟨(W1 _ _).cons.cons.cons, (MP _ _ vs _ r ?s1z9 hI).cons.cons.cons, (K1 _ _).trans ((Keep.cons.trans Keep.cons).trans Keep.cons)⟩⟩ ?zFz9 ?zNz9; (case zFz9 => k_asm); (case zNz9 => k_asm); (case s1z9 => rw [Array.size_push]; omega))
theorem s_parts_i (w : World) (news : Led) (t : Nat) (k1 k2 : Tok) (x : Int) (ht : (t, tupOf [.str "whole" k1, .int x k2] 0) ∈ news) : Spec w 567 [.ref t] 2 news (GotL news #[]) (fun _ _ => False) := by
  k_with_none
  refine Spec.intro ?_
  intro p loose mean mg mb dp un gd cn cs a ccd cl outer A₀ base h₀ L m hs9 gs9 ds9 ks9 os9 Q E B F X N T hk hd hu hret hout
  revert X; k_fill; intro X
  refine wpAny_call ?_
  k_dflt ktr_enter
  k_steps
  all_goals (refine' hret _ _ _ _ ⟨_, 0, ?zlz9⟩ ?zFz9 ?zNz9; (case zFz9 => k_asm); (case zNz9 => exact dropSnd (dropSnd (by assumption))); (case zlz9 => first | assumption | exact allLt_of (by assumption) | ((rename AllLt _ (_ :: _ :: news) => hz9); exact hz9.2.2)))
theorem s_parts_t (w : World) (news : Led) (t : Nat) (k1 k2 : Tok) (x : Str) (ht : (t, tupOf [.str "text" k1, .str x k2] 0) ∈ news) : Spec w 567 [.ref t] 2 news (GotL news #[]) (fun _ _ => False) := by
  k_with_none
  refine Spec.intro ?_
  intro p loose mean mg mb dp un gd cn cs a ccd cl outer A₀ base h₀ L m hs9 gs9 ds9 ks9 os9 Q E B F X N T hk hd hu hret hout
  revert X; k_fill; intro X
  refine wpAny_call ?_
  k_dflt ktr_enter
  k_steps
  all_goals (refine' hret _ _ _ _ ⟨_, 0, ?zlz9⟩ ?zFz9 ?zNz9; (case zFz9 => k_asm); (case zNz9 => exact dropSnd (dropSnd (by assumption))); (case zlz9 => first | assumption | exact allLt_of (by assumption) | ((rename AllLt _ (_ :: _ :: news) => hz9); exact hz9.2.2)))
theorem s_parts_n (w : World) (news : Led) (t : Nat) (k1 k2 : Tok) (x : Str) (ht : (t, tupOf [.str "name" k1, .str x k2] 0) ∈ news) : Spec w 567 [.ref t] 2 news (GotL news #[]) (fun _ _ => False) := by
  k_with_none
  refine Spec.intro ?_
  intro p loose mean mg mb dp un gd cn cs a ccd cl outer A₀ base h₀ L m hs9 gs9 ds9 ks9 os9 Q E B F X N T hk hd hu hret hout
  revert X; k_fill; intro X
  refine wpAny_call ?_
  k_dflt ktr_enter
  k_steps
  all_goals (refine' hret _ _ _ _ ⟨_, 0, ?zlz9⟩ ?zFz9 ?zNz9; (case zFz9 => k_asm); (case zNz9 => exact dropSnd (dropSnd (by assumption))); (case zlz9 => first | assumption | exact allLt_of (by assumption) | ((rename AllLt _ (_ :: _ :: news) => hz9); exact hz9.2.2)))
theorem s_parts_f (w : World) (news : Led) (t l : Nat) (k1 k2 : Tok) (x : Str) (ht : (t, tupOf [.str "fn" k1, (.str "FNR" k2), .ref l] 0) ∈ news) : Spec w 567 [.ref t] 2 news (fun v n => news = n ∧ v = .ref l) (fun _ _ => False) := by
  k_with_none
  refine Spec.intro ?_
  intro p loose mean mg mb dp un gd cn cs a ccd cl outer A₀ base h₀ L m hs9 gs9 ds9 ks9 os9 Q E B F X N T hk hd hu hret hout
  revert X; k_fill; intro X
  refine wpAny_call ?_
  k_dflt ktr_enter
  k_steps
  all_goals (refine' hret _ _ _ _ ⟨rfl, rfl⟩ ?zFz9 ?zNz9; (case zFz9 => k_asm); (case zNz9 => exact dropHd (by assumption)))
theorem s_parts_a (w : World) (news : Led) (t l : Nat) (k1 k2 : Tok) (x : Str) (ht : (t, tupOf [.str "item" k1, (.str x k2), .ref l] 0) ∈ news) : Spec w 567 [.ref t] 2 news (fun v n => news = n ∧ v = .ref l) (fun _ _ => False) := by
  k_with_none
  refine Spec.intro ?_
  intro p loose mean mg mb dp un gd cn cs a ccd cl outer A₀ base h₀ L m hs9 gs9 ds9 ks9 os9 Q E B F X N T hk hd hu hret hout
  revert X; k_fill; intro X
  refine wpAny_call ?_
  k_dflt ktr_enter
  k_steps
  all_goals (refine' hret _ _ _ _ ⟨rfl, rfl⟩ ?zFz9 ?zNz9; (case zFz9 => k_asm); (case zNz9 => exact dropHd (by assumption)))
theorem s_parts_g (w : World) (news : Led) (t u : Nat) (k1 : Tok) (ht : (t, tupOf [.str "neg" k1, .ref u] 0) ∈ news) : Spec w 567 [.ref t] 2 news (GotL news #[.ref u]) (fun _ _ => False) := by
  k_with_none
  refine Spec.intro ?_
  intro p loose mean mg mb dp un gd cn cs a ccd cl outer A₀ base h₀ L m hs9 gs9 ds9 ks9 os9 Q E B F X N T hk hd hu hret hout
  revert X; k_fill; intro X
  refine wpAny_call ?_
  k_dflt ktr_enter
  k_steps
  all_goals (refine' hret _ _ _ _ ⟨_, 0, ?zlz9⟩ ?zFz9 ?zNz9; (case zFz9 => k_asm); (case zNz9 => exact dropSnd (dropSnd (by assumption))); (case zlz9 => first | assumption | exact allLt_of (by assumption) | ((rename AllLt _ (_ :: _ :: news) => hz9); exact hz9.2.2)))
theorem s_ans (w : World) (A : Ad) (σ : Sg) (left : List Int) (q : Nat) (O : A.Ok w) (st : Led) (W : Wd A st) (M : Mu w A σ left q st) (hq : q ≤ 10000) (hlen : left.length ≤ 101) (k : Tok) (l nl : Nat) (hl : (l, listOf #[] nl) ∈ st) (hl1 : l ∉ A.muts) :
    Spec w 689 [.ref A.run, .str "FNR" k, .ref l] 8 st (PO w A σ (q + 1) st (evF left)) (PEx Rs.bad w A σ (q + 1) st (evF left)) := by
  obtain ⟨vs, nf, hF, hI⟩ := M.fnr
  have h1 : l ≠ A.ask := fun e => hl1 (e ▸ ask_mut A)
  have h3 : l ≠ A.fnr := fun e => hl1 (e ▸ fnr_mut A)
  cases hI with
  | nil => exact (s_ans_nil w A σ [] q O st W M hq k l nl hl h1 h3 nf .nil hF).mono (fun _ _ h => h.elim) fun c n h => ⟨[], by rw [h.1]; rfl, h.2⟩
  | @cons x t vs left hI =>
    have hv : vs.length = left.length := hI.length
    exact (s_ans_cons w A σ (x :: left) q O st W M hq k l nl hl h1 h3 nf (.int x t) vs (by simp at hlen; omega) hF left hI).mono (fun v n h => ⟨.num x, left, rfl, h.2, .inl ⟨t, h.1⟩⟩) fun _ _ h => h.elim
theorem s_fn (w : World) (A : Ad) (σ : Sg) (left : List Int) (q : Nat) (O : A.Ok w) (st : Led) (W : Wd A st) (M : Mu w A σ left q st) (hq : q ≤ 10000) (hlen : left.length ≤ 101) (k : Tok) (l nl : Nat) (hl : (l, listOf #[] nl) ∈ st) (hl1 : l ∉ A.muts) : Spec w 675 [.ref A.run, .str "FNR" k, .ref l] 10 st (PO w A σ (q + 1) st (evF left)) (PEx Rs.bad w A σ (q + 1) st (evF left)) := by
  k_with_none
  k_with "call ref" => (refine' Spec.useK (s_ans w A σ left q ?Aa _ ?Ba ?Ca ?Da ?Ea _ _ _ ?Fa ?Ga) ?Ha ?Ia ?Ja ?Ka ?La ?Ma ?Na ?Oa ?_ ?_; (case Ha | Ia | Ja | Ka | La | Ma => walk_at "u9"); (case Aa | Ba => assumption); (case Ca | Da | Ea => assumption); (case Fa => first | assumption | walk_at "m9"); (case Ga => assumption); (case Na | Oa => walk_at "h9"); rotate_left; (rintro c told k1 k2 k3 e di n h' tk' G HP F' R' U'); rotate_left; intro K9 hK9; rintro v n h' tk' HP F' N'; any_goals (refine hK9 _ _ _ ?_))
  refine Spec.intro ?_
  intro p loose mean mg mb dp un gd cn cs a ccd cl outer A₀ base h₀ L m hs9 gs9 ds9 ks9 os9 Q E B F X N T hk hd hu hret hout
  have m5 := W.run; have m6 := W.dR; have m1 := W.wld; have m2 := W.dW; have m3 := W.aF
  have e4 := O.rWorld; have e5 := O.wFns; have e6 := O.rNo "answered" (by simp)
  revert X; k_fill; intro X
  refine wpAny_call ?_
  k_dflt ktr_enter
  k_steps
  all_goals first
    | exact hret _ _ _ _ (by assumption) (by k_asm) (by k_asm)
    | exact hout _ _ _ _ _ _ _ _ _ _ _ (by assumption) (by assumption) (by assumption) (by assumption)
theorem s_leaf_i (w : World) (news : Led) (t : Nat) (k1 k2 k3 k4 : Tok) (x : Int) (hx : -9 ≤ x ∧ x ≤ 9) (ht : (t, tupOf [.str "whole" k1, .int x k2] 0) ∈ news) : Spec w 609 [.ref t, .int 16 k3, .int 9 k4] 4 news (GotI news x) (fun _ _ => False) := by
  k_with_none
  k_with "call ref" => (refine' Spec.useK (s_fits _ _ _ _ _ ?Aa) ?Ba ?Ca ?Da ?Ea ?Fa ?Ga ?Ha ?Ia ?_ ?_; (case Ba | Ca | Da | Ea | Fa | Ga => walk_at "u9"); (case Aa => walk_at "q9"); (case Ha | Ia => walk_at "h9"); rotate_left; exact OutE.none; intro K9 hK9; rintro v n h' tk' ⟨rfl, rfl⟩ F' N'; any_goals (refine hK9 _ _ _ ?_))
  refine Spec.intro ?_
  intro p loose mean mg mb dp un gd cn cs a ccd cl outer A₀ base h₀ L m hs9 gs9 ds9 ks9 os9 Q E B F X N T hk hd hu hret hout
  obtain ⟨hx1, hx2⟩ := hx
  revert X; k_fill; intro X
  refine wpAny_call ?_
  k_dflt ktr_enter
  k_steps
  all_goals first
    | (refine' hret _ _ _ _ ⟨_⟩ ?zFz9 ?zNz9; (case zFz9 => k_asm); (case zNz9 => k_asm))
theorem s_leaf_t (w : World) (news : Led) (t : Nat) (k1 k2 k3 k4 : Tok) (x : Str) (ht : (t, tupOf [.str "text" k1, .str x k2] 0) ∈ news) : Spec w 609 [.ref t, .int 16 k3, .int 9 k4] 4 news (GotS news x) (fun _ _ => False) := by
  k_with_none
  refine Spec.intro ?_
  intro p loose mean mg mb dp un gd cn cs a ccd cl outer A₀ base h₀ L m hs9 gs9 ds9 ks9 os9 Q E B F X N T hk hd hu hret hout
  revert X; k_fill; intro X
  refine wpAny_call ?_
  k_dflt ktr_enter
  k_steps
  all_goals first
    | (refine' hret _ _ _ _ ⟨_⟩ ?zFz9 ?zNz9; (case zFz9 => k_asm); (case zNz9 => k_asm))
theorem s_settled (w : World) (news : Led) (x : Int) (k1 k3 k4 : Tok) (hx : -9 ≤ x ∧ x ≤ 9) : Spec w 408 [.int x k1, .int 16 k3, .int 9 k4] 4 news (GotI news x) (fun _ _ => False) := by
  k_with_none
  k_with "call ref" => (refine' Spec.useK (s_fits _ _ _ _ _ ?Aa) ?Ba ?Ca ?Da ?Ea ?Fa ?Ga ?Ha ?Ia ?_ ?_; (case Ba | Ca | Da | Ea | Fa | Ga => walk_at "u9"); (case Aa => walk_at "q9"); (case Ha | Ia => walk_at "h9"); rotate_left; exact OutE.none; intro K9 hK9; rintro v n h' tk' ⟨rfl, rfl⟩ F' N'; any_goals (refine hK9 _ _ _ ?_))
  refine Spec.intro ?_
  intro p loose mean mg mb dp un gd cn cs a ccd cl outer A₀ base h₀ L m hs9 gs9 ds9 ks9 os9 Q E B F X N T hk hd hu hret hout
  obtain ⟨hx1, hx2⟩ := hx
  revert X; k_fill; intro X
  refine wpAny_call ?_
  k_dflt ktr_enter
  k_steps
  all_goals first
    | (refine' hret _ _ _ _ ⟨_⟩ ?zFz9 ?zNz9; (case zFz9 => k_asm); (case zNz9 => k_asm))
theorem s_negated (w : World) (news : Led) (x : Int) (k1 k3 k4 : Tok) (hx : -9 ≤ x ∧ x ≤ 9) : Spec w 464 [.int x k1, .int 16 k3, .int 9 k4] 6 news (GotI news (0 - x)) (fun _ _ => False) := by
  k_with_none
  k_with "call ref" => (refine' Spec.useK (s_settled _ _ _ _ _ _ ?Aa) ?Ba ?Ca ?Da ?Ea ?Fa ?Ga ?Ha ?Ia ?_ ?_; (case Ba | Ca | Da | Ea | Fa | Ga => walk_at "u9"); (case Aa => walk_at "q9"); (case Ha | Ia => walk_at "h9"); rotate_left; exact OutE.none; intro K9 hK9; rintro v n h' tk' ⟨k⟩ F' N'; any_goals (refine hK9 _ _ _ ?_))
  refine Spec.intro ?_
  intro p loose mean mg mb dp un gd cn cs a ccd cl outer A₀ base h₀ L m hs9 gs9 ds9 ks9 os9 Q E B F X N T hk hd hu hret hout
  obtain ⟨hx1, hx2⟩ := hx
  revert X; k_fill; intro X
  refine wpAny_call ?_
  k_dflt ktr_enter
  k_steps
  all_goals first
    | (refine' hret _ _ _ _ ⟨_⟩ ?zFz9 ?zNz9; (case zFz9 => k_asm); (case zNz9 => k_asm))
theorem s_one (w : World) (news : Led) (x : Int) (k0 k1 k3 k4 : Tok) (hx : -9 ≤ x ∧ x ≤ 9) : Spec w 602 [.str "neg" k0, .int x k1, .int 16 k3, .int 9 k4] 8 news (GotI news (0 - x)) (fun _ _ => False) := by
  k_with_none
  k_with "call ref" => (refine' Spec.useK (s_negated _ _ _ _ _ _ ?Aa) ?Ba ?Ca ?Da ?Ea ?Fa ?Ga ?Ha ?Ia ?_ ?_; (case Ba | Ca | Da | Ea | Fa | Ga => walk_at "u9"); (case Aa => walk_at "q9"); (case Ha | Ia => walk_at "h9"); rotate_left; exact OutE.none; intro K9 hK9; rintro v n h' tk' ⟨k⟩ F' N'; any_goals (refine hK9 _ _ _ ?_))
  refine Spec.intro ?_
  intro p loose mean mg mb dp un gd cn cs a ccd cl outer A₀ base h₀ L m hs9 gs9 ds9 ks9 os9 Q E B F X N T hk hd hu hret hout
  obtain ⟨hx1, hx2⟩ := hx
  revert X; k_fill; intro X
  refine wpAny_call ?_
  k_dflt ktr_enter
  k_steps
  all_goals first
    | (refine' hret _ _ _ _ ⟨_⟩ ?zFz9 ?zNz9; (case zFz9 => k_asm); (case zNz9 => k_asm))
theorem s_negated_d (w : World) (news : Led) (t : Nat) (x : Int) (d1 d2 k3 k4 : Tok) (hx : -9 ≤ x ∧ x ≤ 9) (ht : (t, decO x d1 d2) ∈ news) : Spec w 464 [.ref t, .int 16 k3, .int 9 k4] 6 news (GotE news (0 - x)) (fun _ _ => False) := by
  k_with_none
  refine Spec.intro ?_
  intro p loose mean mg mb dp un gd cn cs a ccd cl outer A₀ base h₀ L m hs9 gs9 ds9 ks9 os9 Q E B F X N T hk hd hu hret hout
  obtain ⟨hx1, hx2⟩ := hx
  revert X; k_fill; intro X
  refine wpAny_call ?_
  k_dflt ktr_enter
  k_steps
  all_goals first
    | (refine' hret _ _ _ _ ⟨_, _, _⟩ ?zFz9 ?zNz9; (case zFz9 => k_asm); (case zNz9 => k_asm))
theorem s_one_d (w : World) (news : Led) (t : Nat) (x : Int) (k0 d1 d2 k3 k4 : Tok) (hx : -9 ≤ x ∧ x ≤ 9) (ht : (t, decO x d1 d2) ∈ news) : Spec w 602 [.str "neg" k0, .ref t, .int 16 k3, .int 9 k4] 8 news (GotE news (0 - x)) (fun _ _ => False) := by
  k_with_none
  k_with "call ref" => (refine' Spec.useK (s_negated_d _ _ _ x _ _ _ _ ?Aa ?Ba) ?Ca ?Da ?Ea ?Fa ?Ga ?Ha ?Ia ?Ja ?_ ?_; (case Ca | Da | Ea | Fa | Ga | Ha => walk_at "u9"); (case Aa => walk_at "q9"); (case Ba => first | assumption | walk_at "m9"); (case Ia | Ja => walk_at "h9"); rotate_left; exact OutE.none; intro K9 hK9; rintro v n h' tk' ⟨t2, k1', k2'⟩ F' N'; any_goals (refine hK9 _ _ _ ?_))
  refine Spec.intro ?_
  intro p loose mean mg mb dp un gd cn cs a ccd cl outer A₀ base h₀ L m hs9 gs9 ds9 ks9 os9 Q E B F X N T hk hd hu hret hout
  obtain ⟨hx1, hx2⟩ := hx
  revert X; k_fill; intro X
  refine wpAny_call ?_
  k_dflt ktr_enter
  k_steps
  all_goals first
    | (refine' hret _ _ _ _ ⟨_, _, _⟩ ?zFz9 ?zNz9; (case zFz9 => k_asm); (case zNz9 => k_asm))
theorem s_itemP (w : World) (A : Ad) (σ : Sg) (left : List Int) (q : Nat) (O : A.Ok w) (st : Led) (W : Wd A st) (M : Mu w A σ left q st) (hq : q ≤ 10000) (b : Ar) (k : Tok) (l nl : Nat) (z : Value) (i : Int) (hl : (l, listOf #[z] nl) ∈ st) (hlm : l ≠ A.ask) (hz : PV st z (.num i)) (hi : -9 ≤ i ∧ i ≤ 9) :
    Spec w 661 [.ref A.run, .str b.word k, .ref l] 14 st (PO w A σ (q + 1) st (idx σ b (.ok (.num i) left))) (PEx Rs.bad w A σ (q + 1) st (idx σ b (.ok (.num i) left))) := by
  refine (s_itemof w A σ left q O st W M hq b k l nl z i hl hlm hz hi).mono (fun v n h => ⟨_, left, if_pos h.2.1, h.1, h.2.2.pv⟩) fun c n h => ⟨left, ?_, h.2.1⟩
  rw [h.1]; exact if_neg h.2.2
theorem s_wt_i (w : World) (A : Ad) (O : A.Ok w) (st : Led) (W : Wd A st) (t l : Nat) (k1 k2 : Tok) (x : Int) (hx : -9 ≤ x ∧ x ≤ 9) (ht : (t, tupOf [.str "whole" k1, .int x k2] 0) ∈ st) : Spec w 616 [.ref t, .ref l, .ref A.run] 6 st (GotI st x) (fun _ _ => False) := by
  k_with_none
  k_with "call ref" => (refine' Spec.useK (s_leaf_i _ _ _ _ _ _ _ _ ?Aa ?Ba) ?Ca ?Da ?Ea ?Fa ?Ga ?Ha ?Ia ?Ja ?_ ?_; (case Ca | Da | Ea | Fa | Ga | Ha => walk_at "u9"); (case Aa | Ba => assumption); (case Ia | Ja => walk_at "h9"); rotate_left; exact OutE.none; intro K9 hK9; rintro v n h' tk' ⟨k⟩ F' N'; any_goals (refine hK9 _ _ _ ?_))
  refine Spec.intro ?_
  intro p loose mean mg mb dp un gd cn cs a ccd cl outer A₀ base h₀ L m hs9 gs9 ds9 ks9 os9 Q E B F X N T hk hd hu hret hout
  have m5 := W.run; have m6 := W.dR
  obtain ⟨kb, e4⟩ := O.rBits; obtain ⟨kd, e5⟩ := O.rDigits
  revert X; k_fill; intro X
  refine wpAny_call ?_
  k_dflt ktr_enter
  k_steps
  all_goals first
    | (refine' hret _ _ _ _ ⟨_⟩ ?zFz9 ?zNz9; (case zFz9 => k_asm); (case zNz9 => k_asm))
theorem s_wt_t (w : World) (A : Ad) (O : A.Ok w) (st : Led) (W : Wd A st) (t l : Nat) (k1 k2 : Tok) (x : Str) (ht : (t, tupOf [.str "text" k1, .str x k2] 0) ∈ st) : Spec w 616 [.ref t, .ref l, .ref A.run] 6 st (GotS st x) (fun _ _ => False) := by
  k_with_none
  k_with "call ref" => (refine' Spec.useK (s_leaf_t _ _ _ _ _ _ _ _ ?Aa) ?Ba ?Ca ?Da ?Ea ?Fa ?Ga ?Ha ?Ia ?_ ?_; (case Ba | Ca | Da | Ea | Fa | Ga => walk_at "u9"); (case Aa => assumption); (case Ha | Ia => walk_at "h9"); rotate_left; exact OutE.none; intro K9 hK9; rintro v n h' tk' ⟨k⟩ F' N'; any_goals (refine hK9 _ _ _ ?_))
  refine Spec.intro ?_
  intro p loose mean mg mb dp un gd cn cs a ccd cl outer A₀ base h₀ L m hs9 gs9 ds9 ks9 os9 Q E B F X N T hk hd hu hret hout
  have m5 := W.run; have m6 := W.dR
  obtain ⟨kb, e4⟩ := O.rBits; obtain ⟨kd, e5⟩ := O.rDigits
  revert X; k_fill; intro X
  refine wpAny_call ?_
  k_dflt ktr_enter
  k_steps
  all_goals first
    | (refine' hret _ _ _ _ ⟨_⟩ ?zFz9 ?zNz9; (case zFz9 => k_asm); (case zNz9 => k_asm))
theorem s_wt_g (w : World) (A : Ad) (O : A.Ok w) (st : Led) (W : Wd A st) (t l nl : Nat) (k1 k2 : Tok) (x : Int) (u : Value) (hx : -9 ≤ x ∧ x ≤ 9) (ht : (t, tupOf [.str "neg" k1, u] 0) ∈ st) (hl : (l, listOf #[.int x k2] nl) ∈ st) : Spec w 616 [.ref t, .ref l, .ref A.run] 10 st (GotI st (0 - x)) (fun _ _ => False) := by
  k_with_none
  k_with "call ref" => (refine' Spec.useK (s_one _ _ _ _ _ _ _ ?Aa) ?Ba ?Ca ?Da ?Ea ?Fa ?Ga ?Ha ?Ia ?_ ?_; (case Ba | Ca | Da | Ea | Fa | Ga => walk_at "u9"); (case Aa => assumption); (case Ha | Ia => walk_at "h9"); rotate_left; exact OutE.none; intro K9 hK9; rintro v n h' tk' ⟨k⟩ F' N'; any_goals (refine hK9 _ _ _ ?_))
  k_with "subscriptTail" => (refine' item_listN ?Ab ?Bb ?Cb ?Db ?Eb ?_ ?Fb; (case Ab => k_asm); (case Bb => walk_at "m9"); (case Cb | Db => decide); (case Eb => rfl); (case Fb => with_unfolding_all rfl); k_whole)
  k_with "subscriptTail Name Constant ref int" => (refine' item_listN ?Ac ?Bc ?Cc ?Dc ?Ec ?_ ?Fc; (case Ac => k_asm); (case Bc => walk_at "m9"); (case Cc | Dc => decide); (case Ec => rfl); (case Fc => with_unfolding_all rfl); k_whole)
  refine Spec.intro ?_
  intro p loose mean mg mb dp un gd cn cs a ccd cl outer A₀ base h₀ L m hs9 gs9 ds9 ks9 os9 Q E B F X N T hk hd hu hret hout
  have m5 := W.run; have m6 := W.dR
  obtain ⟨kb, e4⟩ := O.rBits; obtain ⟨kd, e5⟩ := O.rDigits
  revert X; k_fill; intro X
  refine wpAny_call ?_
  k_dflt ktr_enter
  k_steps
  all_goals first
    | (refine' hret _ _ _ _ ⟨_⟩ ?zFz9 ?zNz9; (case zFz9 => k_asm); (case zNz9 => k_asm))
theorem s_wt_n (w : World) (A : Ad) (σ : Sg) (left : List Int) (q : Nat) (O : A.Ok w) (st : Led) (W : Wd A st) (M : Mu w A σ left q st) (hq : q ≤ 10000) (t l : Nat) (k1 k2 : Tok) (x : Nm) (ht : (t, tupOf [.str "name" k1, .str x.word k2] 0) ∈ st) : Spec w 616 [.ref t, .ref l, .ref A.run] 10 st (fun v n => Left w A σ left (q + 1) st n ∧ VR n v (σ.nm x)) (fun _ _ => False) := by
  k_with_none
  k_with "call ref" => (refine' Spec.useK (s_von w A σ left q ?Aa _ ?Ba ?Ca ?Da x _) ?Ea ?Fa ?Ga ?Ha ?Ia ?Ja ?Ka ?La ?_ ?_; (case Ea | Fa | Ga | Ha | Ia | Ja => walk_at "u9"); (case Aa | Ba => assumption); (case Ca | Da => assumption); (case Ka | La => walk_at "h9"); rotate_left; exact OutE.none; intro K9 hK9; rintro v n h' tk' HP F' N'; any_goals (refine hK9 _ _ _ ?_))
  refine Spec.intro ?_
  intro p loose mean mg mb dp un gd cn cs a ccd cl outer A₀ base h₀ L m hs9 gs9 ds9 ks9 os9 Q E B F X N T hk hd hu hret hout
  have m5 := W.run; have m6 := W.dR
  have e6 := O.rNo "value_of_name" (by simp)
  revert X; k_fill; intro X
  refine wpAny_call ?_
  k_dflt ktr_enter
  k_steps
  all_goals first
    | exact hret _ _ _ _ (by assumption) (by k_asm) (by k_asm)
    | exact hout _ _ _ _ _ _ _ _ _ _ _ (by assumption) (by assumption) (by assumption) (by assumption)
theorem s_wt_f (w : World) (A : Ad) (σ : Sg) (left : List Int) (q : Nat) (O : A.Ok w) (st : Led) (W : Wd A st) (M : Mu w A σ left q st) (hq : q ≤ 10000) (hlen : left.length ≤ 101) (t l nl l0 : Nat) (k1 k2 : Tok) (ht : (t, tupOf [.str "fn" k1, .str "FNR" k2, .ref l0] 0) ∈ st) (hl : (l, listOf #[] nl) ∈ st) (hlm : l ∉ A.muts) : Spec w 616 [.ref t, .ref l, .ref A.run] 12 st (PO w A σ (q + 1) st (evF left)) (PEx Rs.bad w A σ (q + 1) st (evF left)) := by
  k_with_none
  k_with "call ref" => (refine' Spec.useK (s_fn w A σ left q ?Aa _ ?Ba ?Ca ?Da ?Ea _ _ _ ?Fa ?Ga) ?Ha ?Ia ?Ja ?Ka ?La ?Ma ?Na ?Oa ?_ ?_; (case Ha | Ia | Ja | Ka | La | Ma => walk_at "u9"); (case Aa | Ba => assumption); (case Ca | Da => assumption); (case Ea | Fa | Ga => assumption); (case Na | Oa => walk_at "h9"); rotate_left; (rintro c told k1 k2 k3 e di n h' tk' G HP F' R' U'); rotate_left; intro K9 hK9; rintro v n h' tk' HP F' N'; any_goals (refine hK9 _ _ _ ?_))
  refine Spec.intro ?_
  intro p loose mean mg mb dp un gd cn cs a ccd cl outer A₀ base h₀ L m hs9 gs9 ds9 ks9 os9 Q E B F X N T hk hd hu hret hout
  have m5 := W.run; have m6 := W.dR
  have e6 := O.rNo "fn" (by simp)
  revert X; k_fill; intro X
  refine wpAny_call ?_
  k_dflt ktr_enter
  k_steps
  all_goals first
    | exact hret _ _ _ _ (by assumption) (by k_asm) (by k_asm)
    | exact hout _ _ _ _ _ _ _ _ _ _ _ (by assumption) (by assumption) (by assumption) (by assumption)
theorem s_wt_a (w : World) (A : Ad) (σ : Sg) (left : List Int) (q : Nat) (O : A.Ok w) (st : Led) (W : Wd A st) (M : Mu w A σ left q st) (hq : q ≤ 10000) (t l nl l0 : Nat) (k1 k2 : Tok) (b : Ar) (z : Value) (i : Int) (ht : (t, tupOf [.str "item" k1, .str b.word k2, .ref l0] 0) ∈ st) (hl : (l, listOf #[z] nl) ∈ st) (hlm : l ≠ A.ask) (hz : PV st z (.num i)) (hi : -9 ≤ i ∧ i ≤ 9) : Spec w 616 [.ref t, .ref l, .ref A.run] 16 st (PO w A σ (q + 1) st (idx σ b (.ok (.num i) left))) (PEx Rs.bad w A σ (q + 1) st (idx σ b (.ok (.num i) left))) := by
  k_with_none
  k_with "call ref" => (refine' Spec.useK (s_itemP w A σ left q ?Aa _ ?Ba ?Ca ?Da b _ _ _ _ i ?Ea ?Fa ?Ga ?Ha) ?Ia ?Ja ?Ka ?La ?Ma ?Na ?Oa ?Pa ?_ ?_; (case Ia | Ja | Ka | La | Ma | Na => walk_at "u9"); (case Aa | Ba => assumption); (case Ca | Da => assumption); (case Ea | Fa => assumption); (case Ga | Ha => assumption); (case Oa | Pa => walk_at "h9"); rotate_left; (rintro c told k1 k2 k3 e di n h' tk' G HP F' R' U'); rotate_left; intro K9 hK9; rintro v n h' tk' HP F' N'; any_goals (refine hK9 _ _ _ ?_))
  refine Spec.intro ?_
  intro p loose mean mg mb dp un gd cn cs a ccd cl outer A₀ base h₀ L m hs9 gs9 ds9 ks9 os9 Q E B F X N T hk hd hu hret hout
  have m5 := W.run; have m6 := W.dR
  have e6 := O.rNo "item_of" (by simp)
  revert X; k_fill; intro X
  refine wpAny_call ?_
  k_dflt ktr_enter
  k_steps
  all_goals first
    | exact hret _ _ _ _ (by assumption) (by k_asm) (by k_asm)
    | exact hout _ _ _ _ _ _ _ _ _ _ _ (by assumption) (by assumption) (by assumption) (by assumption)
theorem s_wt_gd (w : World) (A : Ad) (O : A.Ok w) (st : Led) (W : Wd A st) (t l nl d : Nat) (k1 d1 d2 : Tok) (x : Int) (u : Value) (hx : -9 ≤ x ∧ x ≤ 9) (ht : (t, tupOf [.str "neg" k1, u] 0) ∈ st) (hl : (l, listOf #[.ref d] nl) ∈ st) (hd9 : (d, decO x d1 d2) ∈ st) : Spec w 616 [.ref t, .ref l, .ref A.run] 10 st (GotE st (0 - x)) (fun _ _ => False) := by
  k_with_none
  k_with "call ref" => (refine' Spec.useK (s_one_d _ _ _ x _ _ _ _ _ ?Aa ?Ba) ?Ca ?Da ?Ea ?Fa ?Ga ?Ha ?Ia ?Ja ?_ ?_; (case Ca | Da | Ea | Fa | Ga | Ha => walk_at "u9"); (case Aa | Ba => assumption); (case Ia | Ja => walk_at "h9"); rotate_left; exact OutE.none; intro K9 hK9; rintro v n h' tk' ⟨t2, k1', k2'⟩ F' N'; any_goals (refine hK9 _ _ _ ?_))
  k_with "subscriptTail" => (refine' item_listN ?Ab ?Bb ?Cb ?Db ?Eb ?_ ?Fb; (case Ab => k_asm); (case Bb => walk_at "m9"); (case Cb | Db => decide); (case Eb => rfl); (case Fb => with_unfolding_all rfl); k_whole)
  k_with "subscriptTail Name Constant ref int" => (refine' item_listN ?Ac ?Bc ?Cc ?Dc ?Ec ?_ ?Fc; (case Ac => k_asm); (case Bc => walk_at "m9"); (case Cc | Dc => decide); (case Ec => rfl); (case Fc => with_unfolding_all rfl); k_whole)
  refine Spec.intro ?_
  intro p loose mean mg mb dp un gd cn cs a ccd cl outer A₀ base h₀ L m hs9 gs9 ds9 ks9 os9 Q E B F X N T hk hd hu hret hout
  have m5 := W.run; have m6 := W.dR
  obtain ⟨kb, e4⟩ := O.rBits; obtain ⟨kd, e5⟩ := O.rDigits
  revert X; k_fill; intro X
  refine wpAny_call ?_
  k_dflt ktr_enter
  k_steps
  all_goals first
    | (refine' hret _ _ _ _ ⟨_, _, _⟩ ?zFz9 ?zNz9; (case zFz9 => k_asm); (case zNz9 => k_asm))
theorem s_ps (w : World) (Ms : List Nat) (news : Led) (τ : T) (hτ : τ.simple) (t : Nat) (h : Tr Ms news τ (.ref t)) : Spec w 567 [.ref t] 2 news (GotM news #[]) (fun _ _ => False) := by
  cases τ with
  | whole x => obtain ⟨t, k1, k2, e, a⟩ := h; cases e; exact (s_parts_i w news t k1 k2 x a).mono (fun _ _ h => h.m) fun _ _ h => h
  | text x => obtain ⟨t, k1, k2, e, a⟩ := h; cases e; exact (s_parts_t w news t k1 k2 x a).mono (fun _ _ h => h.m) fun _ _ h => h
  | name x => obtain ⟨t, k1, k2, e, a⟩ := h; cases e; exact (s_parts_n w news t k1 k2 x.word a).mono (fun _ _ h => h.m) fun _ _ h => h
  | fn =>
    obtain ⟨t, k1, k2, l, nl, e, a, b, -⟩ := h
    cases e
    exact (s_parts_f w news t l k1 k2 (Str.ofString "") a).sub fun v n ⟨h1, h2⟩ => ⟨(l, listOf #[] nl) :: news, fun p hp => by
      rcases List.mem_cons.mp hp with rfl | hp
      · exact h1 ▸ b
      · exact h1 ▸ hp, h2 ▸ GotM.mk l nl⟩
  | neg n => exact hτ.elim
  | item b τ => exact hτ.elim
theorem s_ws (w : World) (A : Ad) (σ : Sg) (left : List Int) (q : Nat) (O : A.Ok w) (st : Led) (W : Wd A st) (M : Mu w A σ left q st) (hq : q ≤ 9999) (hlen : left.length ≤ 101) (τ : T) (hτ : τ.simple) (t l nl : Nat) (hl : (l, listOf #[] nl) ∈ st) (hlm : l ∉ A.muts) (h : Tr A.muts st τ (.ref t)) : Spec w 616 [.ref t, .ref l, .ref A.run] 12 st (PO w A σ (q + 1) st (ev σ τ left)) (PEx Rs.bad w A σ (q + 1) st (ev σ τ left)) := by
  have R := (Left.refl W M).le (Nat.le_succ q)
  cases τ with
  | whole x => obtain ⟨t, k1, k2, e, a⟩ := h; cases e; exact (s_wt_i w A O st W t l k1 k2 x hτ a).mono (fun v n h => h.po R rfl) fun _ _ h => h.elim
  | text x => obtain ⟨t, k1, k2, e, a⟩ := h; cases e; exact (s_wt_t w A O st W t l k1 k2 x a).mono (fun v n h => h.po R rfl) fun _ _ h => h.elim
  | name x => obtain ⟨t, k1, k2, e, a⟩ := h; cases e; exact (s_wt_n w A σ left q O st W M (by omega) t l k1 k2 x a).mono (fun v n h => ⟨_, _, rfl, h.1, h.2.pv⟩) fun _ _ h => h.elim
  | fn => obtain ⟨t, k1, k2, l0, nl0, e, a, b, c⟩ := h; cases e; exact s_wt_f w A σ left q O st W M (by omega) hlen t l nl l0 k1 k2 a hl hlm
  | neg n => exact hτ.elim
  | item b τ => exact hτ.elim
theorem s_w_s (w : World) (A : Ad) (σ : Sg) (left : List Int) (q : Nat) (O : A.Ok w) (st : Led) (W : Wd A st) (M : Mu w A σ left q st) (hq : q ≤ 9990) (hlen : left.length ≤ 101) (t : Nat) (τ : T) (hτ : τ.simple) (ht : Tr A.muts st τ (.ref t)) : Spec w 621 [.ref t, .ref A.run] 14 st (PO w A σ (q + 1) st (ev σ τ left)) (PEx Rs.bad w A σ (q + 1) st (ev σ τ left)) := by
  k_with_none
  k_with "subscriptTail Name Constant ref int" => (refine' item_listN ?Ah ?Bh ?Ch ?Dh ?Eh ?_ ?Fh; (case Ah => k_asm); (case Bh => walk_at "m9"); (case Ch | Dh => decide); (case Eh => rfl); (case Fh => with_unfolding_all rfl); k_whole)
  k_with "WhlIf" => (first | (refine WhlIf.no (beq_eq_false_iff_ne.mpr (by rw [Int.fmod_eq_emod_of_nonneg _ (by decide)]; omega)) ?_) | (refine WhlIf.yes (decide_eq_true (by omega)) ?_) | (refine WhlIf.no (decide_eq_false (by omega)) ?_))
  k_with "exec While" => (k_here; k_dflt (refine whl_start 100 ?_))
  k_with "exec While Compare" => (k_here; k_dflt (refine whl_start 100 ?_))
  k_with "subscriptTail Name Slice ref ref" => ((with_reducible show wpAny _ _ (subscriptTail _ (PySem.Expr.Slice _ _ none _) (Value.ref _) (Value.ref _)) _ _ _); refine' kms_slice_lit (s := ⟨_, _, _, _, _⟩) ?Aa ?Ba ?Ca ?Da ?Ea ?Fa ?_ ?Ga ?Ha ?Ia; (case Aa | Ba => k_asm); (case Ca => kmk_list); (case Da | Ea => kmk_part); (case Fa => kl_lit); (case Ga => with_unfolding_all rfl); (case Ha => kmk_pure); (case Ia => kmk_size); intro D' h' F' N' l1; (try k_lt l1); (try k_sweep))
  k_with "call ref" => (refine' Spec.useK (s_ps w A.muts _ τ hτ t ?Ab) ?Bb ?Cb ?Db ?Eb ?Fb ?Gb ?Hb ?Ib ?_ ?_; (case Bb | Cb | Db | Eb | Fb | Gb => walk_at "u9"); (case Ab => exact Tr.keep (Ns := []) ⟨fun p hp _ => by repeat (first | exact hp | refine List.Mem.tail _ ?_), fun p hp _ => by repeat (first | exact hp | refine List.Mem.tail _ ?_)⟩ (fun _ h => by cases h) ht); (case Hb | Ib => walk_at "h9"); rotate_left; exact OutE.none; intro K9 hK9; rintro v n h' tk' ⟨l, c⟩ F' N'; any_goals (refine hK9 _ _ _ ?_))
  k_with "call ref" => (refine' Spec.useK (s_ws w A σ left q ?Ac _ ?Bc ?Cc ?Dc ?Ec τ ?Fc t _ _ ?Gc ?Hc ?Ic) ?Jc ?Kc ?Lc ?Mc ?Nc ?Oc ?Pc ?Qc ?_ ?_; (case Jc | Kc | Lc | Mc | Nc | Oc => walk_at "u9"); (case Ac => assumption); (case Bc => exact W.cons.cons.cons.cons.cons.cons); (case Cc => exact M.cons.cons.cons.cons.cons.cons); (case Dc => walk_at "q9"); (case Ec | Fc => assumption); (case Gc => exact .head _); (case Hc => ((first | (rename AllLt _ (_ :: _ :: _ :: _ :: _ :: st) => f9) | (rename _ < _ ∧ AllLt _ (_ :: _ :: _ :: _ :: st) => f9) | (rename _ < _ ∧ _ < _ ∧ AllLt _ (_ :: _ :: _ :: st) => f9) | (rename _ < _ ∧ _ < _ ∧ _ < _ ∧ AllLt _ (_ :: _ :: st) => f9) | (rename _ < _ ∧ _ < _ ∧ _ < _ ∧ _ < _ ∧ AllLt _ (_ :: st) => f9) | (rename _ < _ ∧ _ < _ ∧ _ < _ ∧ _ < _ ∧ _ < _ ∧ AllLt _ (st) => f9)); (try dsimp +zetaDelta only [AllLt] at f9)); exact fresh_mut M f9.2.2.2.2.2); (case Ic => exact Tr.keep (Ns := []) ⟨fun p hp _ => by repeat (first | exact hp | refine List.Mem.tail _ ?_), fun p hp _ => by repeat (first | exact hp | refine List.Mem.tail _ ?_)⟩ (fun _ h => by cases h) ht); (case Pc | Qc => walk_at "h9"); rotate_left; (rintro c told k1 k2 k3 e di n h' tk' G ⟨r, hy, LL⟩ F' R' U'; have L9 := LL.drop.drop.drop.drop.drop.drop); rotate_left; intro K9 hK9; rintro v n h' tk' ⟨y, r, hy, LL, hv⟩ F' N'; ((first | (rename AllLt _ (_ :: st) => fw) | (rename _ < _ ∧ AllLt _ (st) => fw)); (try dsimp +zetaDelta only [AllLt] at fw)); ((first | (rename AllLt _ (_ :: _ :: st) => fv) | (rename _ < _ ∧ AllLt _ (_ :: st) => fv) | (rename _ < _ ∧ _ < _ ∧ AllLt _ (st) => fv)); (try dsimp +zetaDelta only [AllLt] at fv)); have hK1 := LL.keep.1; simp only [List.forall_mem_cons] at hK1; obtain ⟨-, -, -, qv, qw, -⟩ := hK1; replace qv := qv (fresh_mut M fv.2.2); replace qw := qw (fresh_mut M fw.2); have L9 := LL.drop.drop.drop.drop.drop.drop; any_goals (refine hK9 _ _ _ ?_))
  k_with "call builtin:len" => (refine' KM.len_K (n := 0) ?Ad ?Bd ?Cd ?Dd ?_; (case Ad => k_asm); (case Bd => walk_at "m9"); (case Cd => rfl); (case Dd => decide); k_whole)
  k_with "binaryOp Add ref ref" => ((with_reducible show wpAny _ _ (binaryOp _ (Value.ref _) (Value.ref _)) _ _ _); refine' kmk_add_lit ?Ae ?Be ?Ce ?De ?Ee ?_ ?Fe; (case Ae | Be => k_asm); (case Ce | De => kmk_list); (case Ee => kl_lit); (case Fe => kl_room); intro D' h' F' N' l1; (first | k_lt l1 | replace l1 := allLt_of l1); (try k_sweep))
  refine Spec.intro ?_
  intro p loose mean mg mb dp un gd cn cs a ccd cl outer A₀ base h₀ L m hs9 gs9 ds9 ks9 os9 Q E B F X N T hk hd hu hret hout
  revert X; k_fill; intro X
  refine wpAny_call ?_
  k_dflt ktr_enter
  k_steps
  all_goals first
    | (refine' hret _ _ _ _ ⟨_, _, hy, ?zLz9, ?zVz9⟩ ?zFz9 ?zNz9; (case zFz9 => k_asm); (case zNz9 => k_asm); (case zLz9 => exact L9.cons.cons.cons); (case zVz9 => exact hv.cons.cons.cons))
    | (refine' hout _ _ _ _ _ _ _ _ _ _ _ ⟨_, hy, L9⟩ ?zGz9 ?zRz9 ?zUz9; (case zGz9 => assumption); (case zRz9 => assumption); (case zUz9 => assumption))
theorem s_pc (w : World) (Ms : List Nat) (news : Led) (κ : T) (t u : Nat) (h : TrC Ms news κ t u) : Spec w 567 [.ref t] 2 news (GotM news #[.ref u]) (fun _ _ => False) := by
  cases κ with
  | item b τ =>
    obtain ⟨k1, k2, l, nl, a, b, -⟩ := h
    exact (s_parts_a w news t l k1 k2 _ a).sub fun v n ⟨h1, h2⟩ => ⟨(l, listOf #[.ref u] nl) :: news, fun p hp => by
      rcases List.mem_cons.mp hp with rfl | hp
      · exact h1 ▸ b
      · exact h1 ▸ hp, h2 ▸ GotM.mk l nl⟩
  | neg n => obtain ⟨k1, a⟩ := h; exact (s_parts_g w news t u k1 a).mono (fun _ _ h => h.m) fun _ _ h => h
  | whole x => exact h.elim
  | text x => exact h.elim
  | name x => exact h.elim
  | fn => exact h.elim
theorem s_wc (w : World) (A : Ad) (σ : Sg) (left : List Int) (q : Nat) (O : A.Ok w) (st : Led) (W : Wd A st) (M : Mu w A σ left q st) (hq : q ≤ 10000) (κ : T) (t u l nl : Nat) (h : TrC A.muts st κ t u) (z : Value) (i : Int) (hl : (l, listOf #[z] nl) ∈ st) (hlm : l ≠ A.ask) (hz : PV st z (.num i)) (hi : -9 ≤ i ∧ i ≤ 9) :
    Spec w 616 [.ref t, .ref l, .ref A.run] 16 st (PO w A σ (q + 1) st (comb σ κ (.ok (.num i) left))) (PEx Rs.bad w A σ (q + 1) st (comb σ κ (.ok (.num i) left))) := by
  have R := (Left.refl W M).le (Nat.le_succ q)
  cases κ with
  | item b τ => obtain ⟨k1, k2, l0, nl0, a, -, -⟩ := h; exact s_wt_a w A σ left q O st W M hq t l nl l0 k1 k2 b z i a hl hlm hz hi
  | neg n =>
    obtain ⟨k1, a⟩ := h
    rcases hz with ⟨k, rfl⟩ | ⟨d, d1, d2, rfl, hd⟩
    · exact (s_wt_g w A O st W t l nl k1 k i _ hi a hl).mono (fun v n h => h.po R (by rw [Int.zero_sub]; rfl)) fun _ _ h => h.elim
    · exact (s_wt_gd w A O st W t l nl d k1 d1 d2 i _ hi a hl hd).mono (fun v n h => by cases h with | mk d' e1 e2 => exact ⟨.num (-i), left, rfl, R.cons, .inr ⟨d', e1, e2, rfl, by rw [← Int.zero_sub]; exact .head _⟩⟩) fun _ _ h => h.elim
  | whole x => exact h.elim
  | text x => exact h.elim
  | name x => exact h.elim
  | fn => exact h.elim
theorem s_w_c (w : World) (A : Ad) (σ : Sg) (left : List Int) (q : Nat) (O : A.Ok w) (st : Led) (W : Wd A st) (M : Mu w A σ left q st) (hq : q ≤ 9990) (hlen : left.length ≤ 101) (t : Nat) (κ : T) (u : Nat) (τ : T) (hτe : κ.sub = τ) (hτ : τ.simple) (hκ : TrC A.muts st κ t u) (hu0 : Tr A.muts st τ (.ref u)) (hi : ∀ y r, ev σ τ left = .ok y r → ∃ i, y = .num i ∧ -9 ≤ i ∧ i ≤ 9) : Spec w 621 [.ref t, .ref A.run] 20 st (PO w A σ (q + 2) st (ev σ κ left)) (PEx Rs.bad w A σ (q + 2) st (ev σ κ left)) := by
  k_with_none
  k_with "SrcV" => (k_here; k_dflt (refine SrcV.intro (by rfl) (by k_asm) (by k_asm) (by assumption) (by k_mem) ?_; intro g'; lcg_lit))
  k_with "subscriptTail Name Slice ref ref" => ((with_reducible show wpAny _ _ (subscriptTail _ (PySem.Expr.Slice _ _ none _) (Value.ref _) (Value.ref _)) _ _ _); refine' kms_slice_lit (s := ⟨_, _, _, _, _⟩) ?Aa ?Ba ?Ca ?Da ?Ea ?Fa ?_ ?Ga ?Ha ?Ia; (case Aa | Ba => k_asm); (case Ca => kmk_list); (case Da | Ea => kmk_part); (case Fa => kl_lit); (case Ga => with_unfolding_all rfl); (case Ha => kmk_pure); (case Ia => kmk_size); intro D' h' F' N' l1; (try k_lt l1); (try k_sweep))
  k_with "call ref" => (refine' Spec.useK (s_pc w A.muts _ κ t u ?Ab) ?Bb ?Cb ?Db ?Eb ?Fb ?Gb ?Hb ?Ib ?_ ?_; (case Bb | Cb | Db | Eb | Fb | Gb => walk_at "u9"); (case Ab => exact hκ.cons.cons.cons.cons); (case Hb | Ib => walk_at "h9"); rotate_left; exact OutE.none; intro K9 hK9; rintro v n h' tk' ⟨lP, c⟩ F' N'; have hne := list_ne N' (.head _) (.tail _ (.tail _ (.tail _ (.head _)))) (Nat.succ_ne_zero 0); any_goals (refine hK9 _ _ _ ?_))
  k_with "call ref" => (refine' Spec.useK (s_pc w A.muts _ κ t u ?Ac) ?Bc ?Cc ?Dc ?Ec ?Fc ?Gc ?Hc ?Ic ?_ ?_; (case Bc | Cc | Dc | Ec | Fc | Gc => walk_at "u9"); (case Ac => exact hκ2.cons.cons.cons.cons); (case Hc | Ic => walk_at "h9"); rotate_left; exact OutE.none; intro K9 hK9; rintro v n h' tk' ⟨lP, c⟩ F' N'; any_goals (refine hK9 _ _ _ ?_))
  k_with "call ref" => (refine' Spec.useK (s_ps w A.muts _ τ hτ u ?Ad) ?Bd ?Cd ?Dd ?Ed ?Fd ?Gd ?Hd ?Id ?_ ?_; (case Bd | Cd | Dd | Ed | Fd | Gd => walk_at "u9"); (case Ad => exact Tr.keep (Ns := []) ⟨fun p hp _ => by repeat (first | exact hp | refine List.Mem.tail _ ?_), fun p hp _ => by repeat (first | exact hp | refine List.Mem.tail _ ?_)⟩ (fun _ h => by cases h) hu0); (case Hd | Id => walk_at "h9"); rotate_left; exact OutE.none; intro K9 hK9; rintro v n h' tk' ⟨l, c⟩ F' N'; any_goals (refine hK9 _ _ _ ?_))
  k_with "call ref" => (refine' Spec.useK (s_ws w A σ left q ?Ae _ ?Be ?Ce ?De ?Ee τ ?Fe u _ _ ?Ge ?He ?Ie) ?Je ?Ke ?Le ?Me ?Ne ?Oe ?Pe ?Qe ?_ ?_; (case Je | Ke | Le | Me | Ne | Oe => walk_at "u9"); (case Ae => assumption); (case Be => exact W.cons.cons.cons.cons.cons.cons.cons.cons.cons.cons); (case Ce => exact M.cons.cons.cons.cons.cons.cons.cons.cons.cons.cons); (case De => walk_at "q9"); (case Ee | Fe => assumption); (case Ge => exact .head _); (case He => ((first | (rename AllLt _ (_ :: _ :: _ :: _ :: _ :: _ :: _ :: _ :: _ :: st) => f9) | (rename _ < _ ∧ AllLt _ (_ :: _ :: _ :: _ :: _ :: _ :: _ :: _ :: st) => f9) | (rename _ < _ ∧ _ < _ ∧ AllLt _ (_ :: _ :: _ :: _ :: _ :: _ :: _ :: st) => f9) | (rename _ < _ ∧ _ < _ ∧ _ < _ ∧ AllLt _ (_ :: _ :: _ :: _ :: _ :: _ :: st) => f9) | (rename _ < _ ∧ _ < _ ∧ _ < _ ∧ _ < _ ∧ AllLt _ (_ :: _ :: _ :: _ :: _ :: st) => f9) | (rename _ < _ ∧ _ < _ ∧ _ < _ ∧ _ < _ ∧ _ < _ ∧ AllLt _ (_ :: _ :: _ :: _ :: st) => f9) | (rename _ < _ ∧ _ < _ ∧ _ < _ ∧ _ < _ ∧ _ < _ ∧ _ < _ ∧ AllLt _ (_ :: _ :: _ :: st) => f9) | (rename _ < _ ∧ _ < _ ∧ _ < _ ∧ _ < _ ∧ _ < _ ∧ _ < _ ∧ _ < _ ∧ AllLt _ (_ :: _ :: st) => f9) | (rename _ < _ ∧ _ < _ ∧ _ < _ ∧ _ < _ ∧ _ < _ ∧ _ < _ ∧ _ < _ ∧ _ < _ ∧ AllLt _ (_ :: st) => f9) | (rename _ < _ ∧ _ < _ ∧ _ < _ ∧ _ < _ ∧ _ < _ ∧ _ < _ ∧ _ < _ ∧ _ < _ ∧ _ < _ ∧ AllLt _ (st) => f9)); (try dsimp +zetaDelta only [AllLt] at f9)); exact fresh_mut M f9.2.2.2.2.2.2.2.2.2); (case Ie => exact Tr.keep (Ns := []) ⟨fun p hp _ => by repeat (first | exact hp | refine List.Mem.tail _ ?_), fun p hp _ => by repeat (first | exact hp | refine List.Mem.tail _ ?_)⟩ (fun _ h => by cases h) hu0); (case Pe | Qe => walk_at "h9"); rotate_left; (rintro c told k1 k2 k3 e di n h' tk' G ⟨r, hy, LL⟩ F' R' U'); rotate_left; intro K9 hK9; rintro v n h' tk' ⟨y, r, hy, LL, hv⟩ F' N'; obtain ⟨i, rfl, hi1, hi2⟩ := hi y r hy; ((first | (rename AllLt _ (_ :: st) => fw) | (rename _ < _ ∧ AllLt _ (st) => fw)); (try dsimp +zetaDelta only [AllLt] at fw)); ((first | (rename AllLt _ (_ :: _ :: st) => fv) | (rename _ < _ ∧ AllLt _ (_ :: st) => fv) | (rename _ < _ ∧ _ < _ ∧ AllLt _ (st) => fv)); (try dsimp +zetaDelta only [AllLt] at fv)); have hK1 := LL.keep.1; have hK2 := LL.keep.2; simp only [List.forall_mem_cons] at hK1 hK2; obtain ⟨-, -, -, -, -, -, -, qv, qw, -⟩ := hK1; obtain ⟨-, -, -, -, qt, -⟩ := hK2; replace qv := qv (fresh_mut M fv.2.2); replace qw := qw (fresh_mut M fw.2); replace qt := (by first | exact qt rfl | exact qt trivial | exact qt : (_, _) ∈ n); obtain ⟨Lf, OFF, N2, up, up1, up2⟩ := Left.turn W M fw.2 N' qw LL.drop.drop.drop.drop.drop.drop.drop.drop.drop.drop; have qt2 := up _ qt rfl; have qv2 := up2 _ qv (Nat.ne_of_gt fv.1); have hκ2 := hκ.up (fun p hp hc => up p (LL.keep.2 p (.tail _ (.tail _ (.tail _ (.tail _ (.tail _ (.tail _ (.tail _ (.tail _ (.tail _ (.tail _ hp)))))))))) hc) hc) up1; have hv2 := PV.mono up hv; replace N' := N2; clear N2 qv qw qt; any_goals (refine hK9 _ _ _ ?_))
  k_with "call ref" => (refine' Spec.useK (s_wc w A σ r (q + 1) ?Af _ ?Bf ?Cf ?Df κ t u _ _ ?Ef v i ?Ff ?Gf ?Hf ?If) ?Jf ?Kf ?Lf ?Mf ?Nf ?Of ?Pf ?Qf ?_ ?_; (case Jf | Kf | Lf | Mf | Nf | Of => walk_at "u9"); (case Af => assumption); (case Bf => exact (Lf _).wd.cons.cons.cons.cons.cons); (case Cf => exact (Lf _).mu.cons.cons.cons.cons.cons); (case Df => walk_at "q9"); (case Ef => exact hκ2.cons.cons.cons.cons.cons.cons); (case Ff => exact .head _); (case Gf => ((first | (rename AllLt _ (_ :: _ :: _ :: _ :: _ :: (off n _)) => f9) | (rename _ < _ ∧ AllLt _ (_ :: _ :: _ :: _ :: (off n _)) => f9) | (rename _ < _ ∧ _ < _ ∧ AllLt _ (_ :: _ :: _ :: (off n _)) => f9) | (rename _ < _ ∧ _ < _ ∧ _ < _ ∧ AllLt _ (_ :: _ :: (off n _)) => f9) | (rename _ < _ ∧ _ < _ ∧ _ < _ ∧ _ < _ ∧ AllLt _ (_ :: (off n _)) => f9) | (rename _ < _ ∧ _ < _ ∧ _ < _ ∧ _ < _ ∧ _ < _ ∧ AllLt _ ((off n _)) => f9)); (try dsimp +zetaDelta only [AllLt] at f9)); exact fun e9 => fresh_mut (Lf (listOf #[] 0)).mu ⟨f9.2.2.2.2.1, f9.2.2.2.2.2⟩ (by rw [e9]; exact ask_mut A)); (case Hf => exact hv2.cons.cons.cons.cons.cons.cons); (case If => exact ⟨hi1, hi2⟩); (case Pf | Qf => walk_at "h9"); rotate_left; (rintro c told k1 k2 k3 e di n2 h' tk' G ⟨r2, hy2, LL2⟩ F' R' U'); rotate_left; intro K9 hK9; rintro v2 n2 h' tk' ⟨y2, r2, hy2, LL2, hv3⟩ F' N'; ((first | (rename AllLt _ (_ :: _ :: _ :: (off n _)) => f8) | (rename _ < _ ∧ AllLt _ (_ :: _ :: (off n _)) => f8) | (rename _ < _ ∧ _ < _ ∧ AllLt _ (_ :: (off n _)) => f8) | (rename _ < _ ∧ _ < _ ∧ _ < _ ∧ AllLt _ ((off n _)) => f8)); (try dsimp +zetaDelta only [AllLt] at f8)); (have hK3 := LL2.keep.1); simp only [List.forall_mem_cons] at hK3; obtain ⟨-, -, q1, -, -, qw, -⟩ := hK3; replace q1 := q1 (fresh_mut (Lf (listOf #[] 0)).mu ⟨f8.2.2.1, f8.2.2.2⟩); replace qw := qw (fresh_mut M fw.2); have L9 := Left.trans (Lf _) LL2.drop.drop.drop.drop.drop; any_goals (refine hK9 _ _ _ ?_))
  k_with "subscriptTail" => (refine' item_listN ?Ag ?Bg ?Cg ?Dg ?Eg ?_ ?Fg; (case Ag => k_asm); (case Bg => walk_at "m9"); (case Cg | Dg => decide); (case Eg => rfl); (case Fg => with_unfolding_all rfl); k_whole)
  k_with "subscriptTail Name Constant ref int" => (refine' item_listN ?Ah ?Bh ?Ch ?Dh ?Eh ?_ ?Fh; (case Ah => k_asm); (case Bh => walk_at "m9"); (case Ch | Dh => decide); (case Eh => rfl); (case Fh => with_unfolding_all rfl); k_whole)
  k_with "binaryOp Add ref ref" => ((with_reducible show wpAny _ _ (binaryOp _ (Value.ref _) (Value.ref _)) _ _ _); refine' kmk_add_lit ?Ai ?Bi ?Ci ?Di ?Ei ?_ ?Fi; (case Ai | Bi => k_asm); (case Ci | Di => kmk_list); (case Ei => kl_lit); (case Fi => kl_room); intro D' h' F' N' l1; (first | k_lt l1 | replace l1 := allLt_of l1); (try k_sweep))
  k_with "call builtin:len" => (refine' KM.len_K (n := 0) ?Aj ?Bj ?Cj ?Dj ?_; (case Aj => k_asm); (case Bj => walk_at "m9"); (case Cj => rfl); (case Dj => decide); k_whole)
  k_with "eval ListComp" => (refine ListComp_R (F₀ := by k_asm) (by rfl) (by decide) (by rfl) (by decide) (by rfl) ?_)
  k_with "call type:reversed" => (refine' krv_reversed (vs := [.ref u]) ?Ak ?Bk ?Ck ?_; (case Ak | Bk => k_asm); (case Ck => (with_reducible rename News _ _ _ _ => N9); exact News.isList N9 (by walk_at "m9")); intro D' h' F' N' l1; (first | k_lt l1 | replace l1 := allLt_of l1); (try k_sweep))
  k_with "CompEnd" => (refine end1 (by assumption) (by assumption) (by assumption) (by refine ⟨?_, ?_, ?_⟩ <;> k_ne) (by lcg_src) ?_)
  refine Spec.intro ?_
  intro p loose mean mg mb dp un gd cn cs a ccd cl outer A₀ base h₀ L m hs9 gs9 ds9 ks9 os9 Q E B F X N T hk hd hu hret hout
  revert X; k_fill; intro X
  refine wpAny_call ?_
  k_dflt ktr_enter
  k_steps
  all_goals first
    | (refine' hret _ _ _ _ ⟨y2, r2, ?z1z9, ?zLz9, ?zVz9⟩ ?zFz9 ?zNz9; (case zFz9 => k_asm); (case zNz9 => k_asm); (case z1z9 => (rw [hκ.ev, hτe, hy]; exact hy2)); (case zLz9 => exact L9.cons.cons.cons); (case zVz9 => exact hv3.cons.cons.cons))
    | (refine' hout _ _ _ _ _ _ _ _ _ _ _ ⟨r2, ?z1z9, ?zLz9⟩ ?zGz9 ?zRz9 ?zUz9; (case zGz9 => assumption); (case zRz9 => assumption); (case zUz9 => assumption); (case z1z9 => (rw [hκ.ev, hτe, hy]; exact hy2)); (case zLz9 => exact Left.trans (Lf _) LL2.drop.drop.drop.drop.drop))
    | (refine' hout _ _ _ _ _ _ _ _ _ _ _ ⟨r, ?z1z9, ?zLz9⟩ ?zGz9 ?zRz9 ?zUz9; (case zGz9 => assumption); (case zRz9 => assumption); (case zUz9 => assumption); (case z1z9 => (rw [hκ.ev, hτe, hy]; exact comb_bad)); (case zLz9 => exact LL.drop.drop.drop.drop.drop.drop.drop.drop.drop.drop.le (Nat.le_succ _)))
theorem s_worth (w : World) (A : Ad) (σ : Sg) (left : List Int) (q : Nat) (O : A.Ok w) (st : Led) (W : Wd A st) (M : Mu w A σ left q st) (hq : q ≤ 9990) (hσ : σ.Ok) (hl : LOk left) (τ : T) (hτ : τ.Ok) (t : Nat) (ht : Tr A.muts st τ (.ref t)) : Spec w 621 [.ref t, .ref A.run] 20 st (PO w A σ (q + 2) st (ev σ τ left)) (PEx Rs.bad w A σ (q + 2) st (ev σ τ left)) := by
  have up : τ.simple → Spec w 621 [.ref t, .ref A.run] 20 st (PO w A σ (q + 2) st (ev σ τ left)) (PEx Rs.bad w A σ (q + 2) st (ev σ τ left)) := fun h => (s_w_s w A σ left q O st W M hq (by have := hl.1; omega) t τ h ht).mono (fun v n ⟨y, r, a, b, c⟩ => ⟨y, r, a, b.le (by walk_at "q9"), c⟩) fun c n ⟨r, a, b⟩ => ⟨r, a, b.le (by walk_at "q9")⟩
  cases τ with
  | whole x => exact up hτ
  | text x => exact up hτ
  | name x => exact up hτ
  | fn => exact up hτ
  | neg n =>
    obtain ⟨t, k1, t2, k2, k3, e, a, b⟩ := ht
    cases e
    exact s_w_c w A σ left q O st W M hq (by have := hl.1; omega) t (.neg n) t2 (.whole n) rfl hτ ⟨k1, a⟩ ⟨t2, k2, k3, rfl, b⟩ fun y r e => by cases e; exact ⟨n, rfl, hτ⟩
  | item b τ =>
    obtain ⟨t, k1, k2, l, nl, u, e, a, c, d, f⟩ := ht
    cases e
    obtain ⟨u, rfl⟩ := f.ref
    exact s_w_c w A σ left q O st W M hq (by have := hl.1; omega) t (.item b τ) u τ rfl hτ.1 ⟨k1, k2, l, nl, a, c, d⟩ f fun y r e => ev_num hσ hl hτ.2 e
theorem s_rworth (w : World) (A : Ad) (σ : Sg) (left : List Int) (q : Nat) (O : A.Ok w) (st : Led) (W : Wd A st) (M : Mu w A σ left q st) (hq : q ≤ 9990) (hσ : σ.Ok) (hl : LOk left) (τ : T) (hτ : τ.Ok) (t : Nat) (ht : Tr A.muts st τ (.ref t)) : Spec w 642 [.ref A.run, .ref t] 22 st (PO w A σ (q + 2) st (ev σ τ left)) (PEx Rs.bad w A σ (q + 2) st (ev σ τ left)) := by
  k_with_none
  k_with "call ref" => (refine' Spec.useK (s_worth w A σ left q ?Aa _ ?Ba ?Ca ?Da ?Ea ?Fa τ ?Ga t ?Ha) ?Ia ?Ja ?Ka ?La ?Ma ?Na ?Oa ?Pa ?_ ?_; (case Ia | Ja | Ka | La | Ma | Na => walk_at "u9"); (case Aa | Ba => assumption); (case Ca | Da => assumption); (case Ea | Fa => assumption); (case Ga | Ha => assumption); (case Oa | Pa => walk_at "h9"); rotate_left; (rintro c told k1 k2 k3 e di n h' tk' G HP F' R' U'); rotate_left; intro K9 hK9; rintro v n h' tk' ⟨y, r, hy, LL, hv⟩ F' N'; any_goals (refine hK9 _ _ _ ?_))
  refine Spec.intro ?_
  intro p loose mean mg mb dp un gd cn cs a ccd cl outer A₀ base h₀ L m hs9 gs9 ds9 ks9 os9 Q E B F X N T hk hd hu hret hout
  revert X; k_fill; intro X
  refine wpAny_call ?_
  k_dflt ktr_enter
  k_steps
  all_goals first
    | exact hret _ _ _ _ ⟨y, r, hy, LL, hv⟩ (by k_asm) (by k_asm)
    | exact hout _ _ _ _ _ _ _ _ _ _ _ (by assumption) (by assumption) (by assumption) (by assumption)
theorem s_rwhole (w : World) (A : Ad) (σ : Sg) (left : List Int) (q : Nat) (O : A.Ok w) (st : Led) (W : Wd A st) (M : Mu w A σ left q st) (hq : q ≤ 9990) (hσ : σ.Ok) (hl : LOk left) (τ : T) (hτ : τ.Ok) (hn : τ.numb) (t : Nat) (ht : Tr A.muts st τ (.ref t)) : Spec w 649 [.ref A.run, .ref t] 22 st (PN w A σ (q + 2) st (ev σ τ left)) (PEx Rs.bad w A σ (q + 2) st (ev σ τ left)) := by
  k_with_none
  k_with "call ref" => (refine' Spec.useK (s_worth w A σ left q ?Aa _ ?Ba ?Ca ?Da ?Ea ?Fa τ ?Ga t ?Ha) ?Ia ?Ja ?Ka ?La ?Ma ?Na ?Oa ?Pa ?_ ?_; (case Ia | Ja | Ka | La | Ma | Na => walk_at "u9"); (case Aa | Ba => assumption); (case Ca | Da => assumption); (case Ea | Fa => assumption); (case Ga | Ha => assumption); (case Oa | Pa => walk_at "h9"); rotate_left; (rintro c told k1 k2 k3 e di n h' tk' G HP F' R' U'); rotate_left; intro K9 hK9; rintro v n h' tk' ⟨y, r, hy, LL, hv⟩ F' N'; obtain ⟨i, rfl, hi1, hi2⟩ := ev_num hσ hl hn hy; have m5 := LL.wd.run; have m6 := LL.wd.dR; any_goals (refine hK9 _ _ _ ?_))
  k_with "call ref" => (refine' Spec.useK (s_whole w _ _ i _ ?Ab ?Bb) ?Cb ?Db ?Eb ?Fb ?Gb ?Hb ?Ib ?Jb ?_ ?_; (case Cb | Db | Eb | Fb | Gb | Hb => walk_at "u9"); (case Ab => assumption); (case Bb => walk_at "q9"); (case Ib | Jb => walk_at "h9"); rotate_left; exact OutE.none; intro K9 hK9; rintro v n h' tk' ⟨k⟩ F' N'; any_goals (refine hK9 _ _ _ ?_))
  refine Spec.intro ?_
  intro p loose mean mg mb dp un gd cn cs a ccd cl outer A₀ base h₀ L m hs9 gs9 ds9 ks9 os9 Q E B F X N T hk hd hu hret hout
  obtain ⟨kb, e4⟩ := O.rBits
  revert X; k_fill; intro X
  refine wpAny_call ?_
  k_dflt ktr_enter
  k_steps
  all_goals first
    | exact hret _ _ _ _ ⟨i, r, k, hy, LL, rfl⟩ (by k_asm) (by k_asm)
    | exact hout _ _ _ _ _ _ _ _ _ _ _ (by assumption) (by assumption) (by assumption) (by assumption)
theorem s_kt_n (w : World) (A : Ad) (O : A.Ok w) (st : Led) (W : Wd A st) (t : Nat) (k1 k2 : Tok) (x : Nm) (bb : Bool) (hbb : (Wrd.n x).isT = bb) (ht : (t, tupOf [.str "name" k1, .str x.word k2] 0) ∈ st) : Spec w 213 [.ref A.run, .ref t] 4 st (GotS st (kindS bb)) (fun _ _ => False) := by
  k_with_none
  k_with "call ref" => (refine' Spec.useK (s_kindhere_b w A ?Aa _ ?Ba (.n x) bb ?Ca _) ?Da ?Ea ?Fa ?Ga ?Ha ?Ia ?Ja ?Ka ?_ ?_; (case Da | Ea | Fa | Ga | Ha | Ia => walk_at "u9"); (case Aa | Ba => assumption); (case Ca => exact hbb); (case Ja | Ka => walk_at "h9"); rotate_left; exact OutE.none; intro K9 hK9; rintro v n h' tk' ⟨k⟩ F' N'; any_goals (refine hK9 _ _ _ ?_))
  refine Spec.intro ?_
  intro p loose mean mg mb dp un gd cn cs a ccd cl outer A₀ base h₀ L m hs9 gs9 ds9 ks9 os9 Q E B F X N T hk hd hu hret hout
  have m1 := W.wld; have m2 := W.dW; have m5 := W.run; have m6 := W.dR
  have e4 := O.rWorld
  revert X; k_fill; intro X
  refine wpAny_call ?_
  k_dflt ktr_enter
  k_steps
  all_goals first
    | exact hret _ _ _ _ ⟨_⟩ (by k_asm) (by k_asm)
theorem s_kt_a (w : World) (A : Ad) (O : A.Ok w) (st : Led) (W : Wd A st) (t : Nat) (k1 k2 : Tok) (x : Ar) (l : Nat) (bb : Bool) (hbb : (Wrd.a x).isT = bb) (ht : (t, tupOf [.str "item" k1, .str x.word k2, .ref l] 0) ∈ st) : Spec w 213 [.ref A.run, .ref t] 4 st (GotS st (kindS bb)) (fun _ _ => False) := by
  k_with_none
  k_with "call ref" => (refine' Spec.useK (s_kindhere_b w A ?Aa _ ?Ba (.a x) bb ?Ca _) ?Da ?Ea ?Fa ?Ga ?Ha ?Ia ?Ja ?Ka ?_ ?_; (case Da | Ea | Fa | Ga | Ha | Ia => walk_at "u9"); (case Aa | Ba => assumption); (case Ca => exact hbb); (case Ja | Ka => walk_at "h9"); rotate_left; exact OutE.none; intro K9 hK9; rintro v n h' tk' ⟨k⟩ F' N'; any_goals (refine hK9 _ _ _ ?_))
  refine Spec.intro ?_
  intro p loose mean mg mb dp un gd cn cs a ccd cl outer A₀ base h₀ L m hs9 gs9 ds9 ks9 os9 Q E B F X N T hk hd hu hret hout
  have m1 := W.wld; have m2 := W.dW; have m5 := W.run; have m6 := W.dR
  have e4 := O.rWorld
  revert X; k_fill; intro X
  refine wpAny_call ?_
  k_dflt ktr_enter
  k_steps
  all_goals first
    | exact hret _ _ _ _ ⟨_⟩ (by k_asm) (by k_asm)
theorem s_kt (w : World) (A : Ad) (O : A.Ok w) (st : Led) (W : Wd A st) (τ : T) (hτ : τ.Tgt) (t : Nat) (h : Tr A.muts st τ (.ref t)) (bb : Bool) (hbb : τ.isT = bb) : Spec w 213 [.ref A.run, .ref t] 4 st (GotS st (kindS bb)) (fun _ _ => False) := by
  cases τ with
  | name p => obtain ⟨t, k1, k2, e, a⟩ := h; cases e; exact s_kt_n w A O st W t k1 k2 p bb hbb a
  | item b τ => obtain ⟨t, k1, k2, l, nl, u, e, a, -⟩ := h; cases e; exact s_kt_a w A O st W t k1 k2 b l bb hbb a
  | _ => exact hτ.elim
theorem s_va_n (w : World) (A : Ad) (σ : Sg) (left : List Int) (q : Nat) (O : A.Ok w) (st : Led) (W : Wd A st) (M : Mu w A σ left q st) (hq : q ≤ 10000) (t : Nat) (k1 k2 : Tok) (pp : Nm) (ht : (t, tupOf [.str "name" k1, .str pp.word k2] 0) ∈ st) : Spec w 225 [.ref A.run, .ref t] 10 st (fun v n => Left w A σ left (q + 1) st n ∧ VR n v (σ.nm pp)) (fun _ _ => False) := by
  k_with_none
  k_with "call ref" => (refine' Spec.useK (s_von w A σ left q ?Aa _ ?Ba ?Ca ?Da _ _) ?Ea ?Fa ?Ga ?Ha ?Ia ?Ja ?Ka ?La ?_ ?_; (case Ea | Fa | Ga | Ha | Ia | Ja => walk_at "u9"); (case Aa | Ba => assumption); (case Ca | Da => assumption); (case Ka | La => walk_at "h9"); rotate_left; exact OutE.none; intro K9 hK9; rintro v n h' tk' ⟨LL, hv⟩ F' N'; any_goals (refine hK9 _ _ _ ?_))
  refine Spec.intro ?_
  intro p loose mean mg mb dp un gd cn cs a ccd cl outer A₀ base h₀ L m hs9 gs9 ds9 ks9 os9 Q E B F X N T hk hd hu hret hout
  have m5 := W.run; have m6 := W.dR; have e6 := O.rNo "value_of_name" (by simp)
  revert X; k_fill; intro X
  refine wpAny_call ?_
  k_dflt ktr_enter
  k_steps
  all_goals first
    | exact hret _ _ _ _ ⟨LL, hv⟩ (by k_asm) (by k_asm)
theorem s_va_a (w : World) (A : Ad) (σ : Sg) (left : List Int) (q : Nat) (O : A.Ok w) (st : Led) (W : Wd A st) (M : Mu w A σ left q st) (hq : q ≤ 10000) (t : Nat) (k1 k2 : Tok) (b : Ar) (l nl : Nat) (z : Value) (i : Int) (ht : (t, tupOf [.str "item" k1, .str b.word k2, .ref l] 0) ∈ st) (hl : (l, listOf #[z] nl) ∈ st) (hlm : l ∉ A.muts) (hz : PV st z (.num i)) (hi0 : 0 ≤ i) (hi3 : i ≤ 3) : Spec w 225 [.ref A.run, .ref t] 16 st (fun v n => Left w A σ left (q + 1) st n ∧ VR n v (σ.ar b i.toNat)) (fun _ _ => False) := by
  k_with_none
  k_with "call ref" => (refine' Spec.useK (s_itemof w A σ left q ?Aa _ ?Ba ?Ca ?Da b _ _ _ _ _ ?Ea ?Fa ?Ga ?Ha) ?Ia ?Ja ?Ka ?La ?Ma ?Na ?Oa ?Pa ?_ ?_; (case Ia | Ja | Ka | La | Ma | Na => walk_at "u9"); (case Aa | Ba => assumption); (case Ca | Da | Ea => assumption); (case Fa => exact fun e => hlm (e ▸ ask_mut A)); (case Ga => assumption); (case Ha => walk_at "q9"); (case Oa | Pa => walk_at "h9"); rotate_left; (rintro c told k1 k2 k3 e di n h' tk' G ⟨rfl, LL, hin⟩ F' R' U'; exact (hin ⟨hi0, hi3⟩).elim); rotate_left; intro K9 hK9; rintro v n h' tk' ⟨LL, hi9, hv⟩ F' N'; any_goals (refine hK9 _ _ _ ?_))
  refine Spec.intro ?_
  intro p loose mean mg mb dp un gd cn cs a ccd cl outer A₀ base h₀ L m hs9 gs9 ds9 ks9 os9 Q E B F X N T hk hd hu hret hout
  have m5 := W.run; have m6 := W.dR; have e6 := O.rNo "item_of" (by simp)
  revert X; k_fill; intro X
  refine wpAny_call ?_
  k_dflt ktr_enter
  k_steps
  all_goals first
    | exact hret _ _ _ _ ⟨LL, hv⟩ (by k_asm) (by k_asm)
theorem s_va (w : World) (A : Ad) (σ : Sg) (left : List Int) (q : Nat) (O : A.Ok w) (st : Led) (W : Wd A st) (M : Mu w A σ left q st) (hq : q ≤ 10000) (p : Pl) (hp : p.Ok) (t : Nat) (h : Pr A.muts st p (.ref t)) : Spec w 225 [.ref A.run, .ref t] 16 st (fun v n => Left w A σ left (q + 1) st n ∧ VR n v (σ.at p)) (fun _ _ => False) := by
  cases p with
  | n p => obtain ⟨t, k1, k2, e, a⟩ := h; cases e; exact (s_va_n w A σ left q O st W M hq t k1 k2 p a).mono (fun _ _ h => h) fun _ _ h => h
  | a b i => obtain ⟨t, k1, k2, l, nl, z, e, a, c, d, f⟩ := h; cases e; exact s_va_a w A σ left q O st W M hq t k1 k2 b l nl z i a c d f hp.1 hp.2
theorem s_pa_n (w : World) (A : Ad) (σ : Sg) (left : List Int) (q : Nat) (O : A.Ok w) (st : Led) (W : Wd A st) (M : Mu w A σ left q st) (t : Nat) (k1 k2 : Tok) (pp : Nm) (ht : (t, tupOf [.str "name" k1, .str pp.word k2] 0) ∈ st) (u : Value) (y : V) (hu' : VR st u y) (hy : okV pp.isT y) : Spec w 232 [.ref A.run, .ref t, u] 22 st (fun v n => v = .none ∧ Left w A (σ.setN pp y) left q st n) (fun _ _ => False) := by
  k_with_none
  k_with "call ref" => (refine' Spec.useK (s_store w A σ left q ?Aa _ ?Ba ?Ca pp _ _ y ?Da ?Ea) ?Fa ?Ga ?Ha ?Ia ?Ja ?Ka ?La ?Ma ?_ ?_; (case Fa | Ga | Ha | Ia | Ja | Ka => walk_at "u9"); (case Aa | Ba => assumption); (case Ca | Da | Ea => assumption); (case La | Ma => walk_at "h9"); rotate_left; exact OutE.none; intro K9 hK9; rintro v n h' tk' ⟨rfl, LL⟩ F' N'; any_goals (refine hK9 _ _ _ ?_))
  refine Spec.intro ?_
  intro p loose mean mg mb dp un gd cn cs a ccd cl outer A₀ base h₀ L m hs9 gs9 ds9 ks9 os9 Q E B F X N T hk hd hu hret hout
  have m5 := W.run; have m6 := W.dR; have e6 := O.rNo "store" (by simp)
  revert X; k_fill; intro X
  refine wpAny_call ?_
  k_dflt ktr_enter
  k_steps
  all_goals first
    | exact hret _ _ _ _ ⟨rfl, LL⟩ (by k_asm) (by k_asm)
theorem s_pa_a (w : World) (A : Ad) (σ : Sg) (left : List Int) (q : Nat) (O : A.Ok w) (st : Led) (W : Wd A st) (M : Mu w A σ left q st) (t : Nat) (k1 k2 : Tok) (b : Ar) (l nl : Nat) (z : Value) (i : Int) (ht : (t, tupOf [.str "item" k1, .str b.word k2, .ref l] 0) ∈ st) (hl : (l, listOf #[z] nl) ∈ st) (hlm : l ∉ A.muts) (hz : PV st z (.num i)) (hi0 : 0 ≤ i) (hi3 : i ≤ 3) (u : Value) (y : V) (hu' : VR st u y) (hy : okV b.isT y) : Spec w 232 [.ref A.run, .ref t, u] 22 st (fun v n => v = .none ∧ Left w A (σ.setA b i.toNat y) left q st n) (fun _ _ => False) := by
  k_with_none
  k_with "call ref" => (refine' Spec.useK (s_put w A σ left q ?Aa _ ?Ba ?Ca b _ _ _ _ i ?Da ?Ea ?Fa ?Ga _ y ?Ha ?Ia) ?Ja ?Ka ?La ?Ma ?Na ?Oa ?Pa ?Qa ?_ ?_; (case Ja | Ka | La | Ma | Na | Oa => walk_at "u9"); (case Aa | Ba => assumption); (case Ca | Da => assumption); (case Ea | Fa => assumption); (case Ga | Ha | Ia => assumption); (case Pa | Qa => walk_at "h9"); rotate_left; exact OutE.none; intro K9 hK9; rintro v n h' tk' ⟨rfl, LL⟩ F' N'; any_goals (refine hK9 _ _ _ ?_))
  refine Spec.intro ?_
  intro p loose mean mg mb dp un gd cn cs a ccd cl outer A₀ base h₀ L m hs9 gs9 ds9 ks9 os9 Q E B F X N T hk hd hu hret hout
  have m5 := W.run; have m6 := W.dR; have e6 := O.rNo "put" (by simp)
  revert X; k_fill; intro X
  refine wpAny_call ?_
  k_dflt ktr_enter
  k_steps
  all_goals first
    | exact hret _ _ _ _ ⟨rfl, LL⟩ (by k_asm) (by k_asm)
theorem s_pa (w : World) (A : Ad) (σ : Sg) (left : List Int) (q : Nat) (O : A.Ok w) (st : Led) (W : Wd A st) (M : Mu w A σ left q st) (p : Pl) (hp : p.Ok) (t : Nat) (h : Pr A.muts st p (.ref t)) (u : Value) (y : V) (hu' : VR st u y) (hy : okV p.isT y) : Spec w 232 [.ref A.run, .ref t, u] 22 st (fun v n => v = .none ∧ Left w A (σ.put y p) left q st n) (fun _ _ => False) := by
  cases p with
  | n p => obtain ⟨t, k1, k2, e, a⟩ := h; cases e; exact s_pa_n w A σ left q O st W M t k1 k2 p a u y hu' hy
  | a b i => obtain ⟨t, k1, k2, l, nl, z, e, a, c, d, f⟩ := h; cases e; exact s_pa_a w A σ left q O st W M t k1 k2 b l nl z i a c d f hp.1 hp.2 u y hu' hy
theorem s_pt_n (w : World) (A : Ad) (σ : Sg) (left : List Int) (q : Nat) (O : A.Ok w) (st : Led) (W : Wd A st) (M : Mu w A σ left q st) (hq : q ≤ 9980) (hσ : σ.Ok) (hl : LOk left) (τ : T) (pp : Nm) (hτ : τ = .name pp) (t : Nat) (k1 k2 : Tok) (ht : (t, tupOf [.str "name" k1, .str pp.word k2] 0) ∈ st) : Spec w 218 [.ref A.run, .ref t] 26 st (PT w A σ (q + 3) st (pl σ τ left)) (PEx RPl.bad w A σ (q + 3) st (pl σ τ left)) := by
  k_with_none
  k_with "CompEnd" => (refine' ⟨_, _, _, rfl, ?Aa, ?Ba, ?Ca, ?Da, ?_⟩; (case Aa | Ba | Ca => assumption); (case Da => first | exact trivial | k_mem | (dsimp only; k_mem) | lcg_src))
  refine Spec.intro ?_
  intro p loose mean mg mb dp un gd cn cs a ccd cl outer A₀ base h₀ L m hs9 gs9 ds9 ks9 os9 Q E B F X N T hk hd hu hret hout
  revert X; k_fill; intro X
  refine wpAny_call ?_
  k_dflt ((refine' code_defC ?k1z9 ?k2z9 ?k3z9 ?k4z9 ?k5z9 ?kAz9 ?kFz9 ?kKz9 ?k6z9 ?k7z9 ?k8z9 ?k9z9 ?kBz9 ?kDz9 ?_ ?c2z9 ?c3z9 ?c4z9; (case kAz9 => exact rfl); (case kFz9 => exact rfl); (case kKz9 => assumption); (case k1z9 => k_asm); (case k2z9 => k_asm); (case k3z9 => k_asm); (case k4z9 => k_asm); (case k5z9 => k_asm); (case k6z9 => k_is); (case k7z9 => k_is); (case k8z9 => (show dp < _; exact hd_lt hd)); (case k9z9 => first | exact BindsTo.of_eq rfl | exact binds_K (by k_in) rfl (by k_is) rfl rfl rfl); (case kBz9 => exact rfl); (case kDz9 => decide +kernel); (case c2z9 => exact rfl); (case c3z9 => exact rfl); (case c4z9 => exact rfl); k_whole; intro g' L' h' tk' cells' FG' F' N' Y' B' X' T' l1; (first | k_lt l1 | replace l1 := allLt_of l1); k_cells Y'; (try simp only [List.cons_append, List.nil_append] at N'); (try dsimp only); (try k_fold)))
  k_steps
  all_goals first
    | exact hret _ _ _ _ ⟨.n pp, left, by rw [hτ]; rfl, (Left.refl W M).cons.le (by walk_at "q9"), t, k1, k2, rfl, .tail _ ht⟩ (by k_asm) (by k_asm)
theorem s_pt_a (w : World) (A : Ad) (σ : Sg) (left : List Int) (q : Nat) (O : A.Ok w) (st : Led) (W : Wd A st) (M : Mu w A σ left q st) (hq : q ≤ 9980) (hσ : σ.Ok) (hl : LOk left) (τ : T) (bb : Ar) (κ : T) (hτ : τ = .item bb κ) (hs : κ.Ok) (hn : κ.numb) (t : Nat) (k1 k2 : Tok) (l nl : Nat) (u : Nat) (ht : (t, tupOf [.str "item" k1, .str bb.word k2, .ref l] 0) ∈ st) (hl0 : (l, listOf #[.ref u] nl) ∈ st) (hlm : l ∉ A.muts) (htr : Tr A.muts st κ (.ref u)) : Spec w 218 [.ref A.run, .ref t] 26 st (PT w A σ (q + 3) st (pl σ τ left)) (PEx RPl.bad w A σ (q + 3) st (pl σ τ left)) := by
  k_with_none
  k_with "CompEnd" => (refine' ⟨_, _, _, rfl, ?Aa, ?Ba, ?Ca, ?Da, ?_⟩; (case Aa | Ba | Ca => assumption); (case Da => first | exact trivial | k_mem | (dsimp only; k_mem) | lcg_src))
  k_with "call ref" => (refine' Spec.useK (s_rworth w A σ left q ?Ab _ ?Bb ?Cb ?Db ?Eb ?Fb κ ?Gb u ?Hb) ?Ib ?Jb ?Kb ?Lb ?Mb ?Nb ?Ob ?Pb ?_ ?_; (case Ib | Jb | Kb | Lb | Mb | Nb => walk_at "u9"); (case Ab => assumption); (case Bb => exact W.cons.cons.cons.cons); (case Cb => exact M.cons.cons.cons.cons); (case Db => walk_at "q9"); (case Eb | Fb => assumption); (case Gb => exact hs); (case Hb => exact htr.up fun p hp => .tail _ (.tail _ (.tail _ (.tail _ hp)))); (case Ob => first | exact hd_ok hd rfl | (show dp + 1 + _ < _; first | exact hd_ok hd rfl | omega)); (case Pb => first | exact hu_ok hu rfl | (show un + 3 + _ < _; first | exact hu_ok hu rfl | omega)); rotate_left; (rintro c told k1 k2 k3 e di n h' tk' G ⟨r, hb, LL⟩ F' R' U'; obtain ⟨g9, hg9⟩ := Rz.get R'; obtain ⟨LP, up, aI, aC, aD⟩ := Left.part (g := g9) W.cons M.cons (fun p hp => hg9 p (.tail _ hp)) off9 hcl' hC' LL; have hdi := code_ne hg9 (.head _) (.tail _ aC) hC' hx' (by rfl); refine hE' _ _ _ _ _ _ F' R' U' (.tail _ aC) ?_; intro h'' fl n' hs9 RF UF; have RF2 := RzF.sub (n' := (di, codeD w c told k1 k2 k3) :: off3 n I' C' D') (fun p hp => by (rcases List.mem_cons.mp hp with hp | hp); (subst hp; exact hs9 _ (.head _) hdi); (exact hs9 p (.tail _ (off3_mem.mp hp).1) (off3_mem.mp hp).2.2.1)) RF; clear RF; clear R' U'); rotate_left; intro K9 hK9; rintro v n h' tk' ⟨y, r, hy, LL, hv⟩ F' N'; obtain ⟨i, rfl, hi1, hi2⟩ := ev_num hσ hl hn hy; obtain ⟨LP, up, aI, aC, aD⟩ := Left.part (g := h'.get?) W.cons M.cons (fun p hp => (N' p hp).1) off9 hcl' hC' LL; (with_reducible rename AllLt _ st => fw); have hcell := LP.keep.1 _ (.head _) (new_mut M fun p hp => Nat.ne_of_lt (Nat.lt_succ_of_lt (ktn_ltOf fw p hp))); have ht2 := LP.keep.2 _ (.tail _ ht) rfl; have w1 := LP.wd.run; have w2 := LP.wd.dR; any_goals (refine hK9 _ _ _ ?_))
  k_with "call ref" => (refine' Spec.useK (s_itemof w A σ r (q + 2) ?Ac _ ?Bc ?Cc ?Dc bb _ _ _ v i ?Ec ?Fc ?Gc ?Hc) ?Ic ?Jc ?Kc ?Lc ?Mc ?Nc ?Oc ?Pc ?_ ?_; (case Ic | Jc | Kc | Lc | Mc | Nc => walk_at "u9"); (case Ac => assumption); (case Bc => exact LP.wd.cons); (case Cc => exact LP.mu.cons); (case Dc => walk_at "q9"); (case Ec => exact .head _); (case Fc => ((with_reducible rename LCg.Off1 _ (off3 _ _ _ _) => hO1); exact fun e => (new_mut LP.mu (off1_mem hO1)) (e ▸ ask_mut A))); (case Gc => exact (hv.up up).cons); (case Hc => walk_at "q9"); (case Oc => first | exact hd_ok hd rfl | (show dp + 1 + _ < _; first | exact hd_ok hd rfl | omega)); (case Pc => first | exact hu_ok hu rfl | (show un + 3 + _ < _; first | exact hu_ok hu rfl | omega)); rotate_left; (rintro c told k1 k2 k3 e di n2 h' tk' G ⟨rfl, LL2, hin⟩ F' R' U'); rotate_left; (with_reducible rename LCg.Off1 _ (off3 _ _ _ _) => hO1); have hDm := new_mut LP.mu (off1_mem hO1); intro K9 hK9; rintro v2 n2 h' tk' ⟨LL2, hi9, hv2⟩ F' N'; have ht3 := LL2.keep.2 _ (.tail _ ht2) rfl; have hD := LL2.keep.1 _ (.head _) hDm; any_goals (refine hK9 _ _ _ ?_))
  k_with "exec Assign cons ListComp" => (refine' Assign_ListComp_1 (base := base) ?Ad ?Bd ?Cd ?Dd ?Ed ?Fd ?Gd ?Hd ?Id ?Jd ?Kd ?Ld ?Md ?_; (case Ad => k_asm); (case Bd | Cd => rfl); (case Dd | Ed => rfl); (case Fd | Gd => with_unfolding_all rfl); (case Hd => decide); (case Id => rfl); (case Jd => decide); (case Kd | Ld | Md => rfl); k_whole)
  k_with "Src1" => (refine' ⟨_, _, _, _, rfl, ?Ae, ?Be, ?Ce, ?De, ?_⟩; (case Ae => rfl); (case Be | Ce => k_asm); (case De => walk_at "m9"); intro I' oI' C' oC' D' m' h' tk' E' hcl' hC' hx' F' N' off' ne' hE'; have off9 := off'; (try simp only [LCg.Off3] at off'))
  k_with "CompEnd" => (refine' ⟨_, _, off3 n I' C' D', rfl, ?Af, ?Bf, ?Cf, ?Df, ?_⟩; (case Af => assumption); (case Bf => exact news_part N' aI aC aD); (case Cf => exact LCg.Off3.of fun p hp => (off3_mem.mp hp).2); (case Df => exact LP.keep.1 _ (.tail _ hl0) hlm))
  k_with "leave" => (refine' leaveF ?Ag ?Bg ?Cg ?Dg ?Eg ?_; (case Ag | Bg => rfl); (case Dg | Cg | Eg => assumption); k_whole; intro h' R' U'; (try dsimp only))
  refine Spec.intro ?_
  intro p loose mean mg mb dp un gd cn cs a ccd cl outer A₀ base h₀ L m hs9 gs9 ds9 ks9 os9 Q E B F X N T hk hd hu hret hout
  have m5 := W.run; have m6 := W.dR; have e6 := O.rNo "worth" (by simp); have e7 := O.rNo "item_of" (by simp)
  revert X; k_fill; intro X
  refine wpAny_call ?_
  k_dflt ((refine' code_defC ?k1z9 ?k2z9 ?k3z9 ?k4z9 ?k5z9 ?kAz9 ?kFz9 ?kKz9 ?k6z9 ?k7z9 ?k8z9 ?k9z9 ?kBz9 ?kDz9 ?_ ?c2z9 ?c3z9 ?c4z9; (case kAz9 => exact rfl); (case kFz9 => exact rfl); (case kKz9 => assumption); (case k1z9 => k_asm); (case k2z9 => k_asm); (case k3z9 => k_asm); (case k4z9 => k_asm); (case k5z9 => k_asm); (case k6z9 => k_is); (case k7z9 => k_is); (case k8z9 => (show dp < _; exact hd_lt hd)); (case k9z9 => first | exact BindsTo.of_eq rfl | exact binds_K (by k_in) rfl (by k_is) rfl rfl rfl); (case kBz9 => exact rfl); (case kDz9 => decide +kernel); (case c2z9 => exact rfl); (case c3z9 => exact rfl); (case c4z9 => exact rfl); k_whole; intro g' L' h' tk' cells' FG' F' N' Y' B' X' T' l1; (first | k_lt l1 | replace l1 := allLt_of l1); k_cells Y'; (try simp only [List.cons_append, List.nil_append] at N'); (try dsimp only); (try k_fold)))
  k_steps
  all_goals first
    | exact hret _ _ _ _ ⟨.a bb i, r, by rw [hτ]; show plI bb (ev σ κ left) = _; rw [hy]; exact if_pos hi9, (LP.trans LL2.drop).drop.cons, _, _, _, _, _, v, rfl, .head _, .tail _ hD, hDm, ((hv.up up).mono (LL2.drop.keep.2)).cons⟩ (by k_asm) (by k_asm)
    | exact hout _ _ _ _ _ _ _ _ _ _ _ ⟨r, by rw [hτ]; show plI bb (ev σ κ left) = _; rw [hy]; exact if_neg hin, (LP.trans LL2.drop).drop⟩ (by assumption) (by assumption) (by assumption)
    | exact hout _ _ _ _ _ _ _ _ _ _ _ ⟨r, by rw [hτ]; show plI bb (ev σ κ left) = _; rw [hb]; rfl, LP.drop.le (by walk_at "q9")⟩ (by assumption) (by assumption) (by assumption)
theorem s_pt (w : World) (A : Ad) (σ : Sg) (left : List Int) (q : Nat) (O : A.Ok w) (st : Led) (W : Wd A st) (M : Mu w A σ left q st) (hq : q ≤ 9980) (hσ : σ.Ok) (hl : LOk left) (τ : T) (hτ : τ.Tgt) (t : Nat) (h : Tr A.muts st τ (.ref t)) : Spec w 218 [.ref A.run, .ref t] 26 st (PT w A σ (q + 3) st (pl σ τ left)) (PEx RPl.bad w A σ (q + 3) st (pl σ τ left)) := by
  cases τ with
  | name p => obtain ⟨t, k1, k2, e, a⟩ := h; cases e; exact s_pt_n w A σ left q O st W M hq hσ hl _ p rfl t k1 k2 a
  | item b κ => obtain ⟨t, k1, k2, l, nl, u, e, a, c, d, f⟩ := h; cases e; obtain ⟨u, rfl⟩ := f.ref; exact s_pt_a w A σ left q O st W M hq hσ hl _ b κ rfl hτ.1 hτ.2 t k1 k2 l nl u a c d f
  | _ => exact hτ.elim
theorem s_swap_ne (w : World) (A : Ad) (σ : Sg) (left : List Int) (q : Nat) (O : A.Ok w) (st : Led) (W : Wd A st) (M : Mu w A σ left q st) (hq : q ≤ 9970) (hσ : σ.Ok) (hl : LOk left) (τ υ : T) (hτ : τ.Tgt) (hυ : υ.Tgt) (t : Nat) (k0 : Tok) (t1 t2 : Nat) (ht : (t, tupOf [.str "SWAP" k0, .ref t1, .ref t2] 0) ∈ st) (h1 : Tr A.muts st τ (.ref t1)) (h2 : Tr A.muts st υ (.ref t2)) (ba bb : Bool) (hba : τ.isT = ba) (hbb : υ.isT = bb) (hnb : ba ≠ bb) : Spec w 239 [.ref A.run, .ref t] 30 st (PA w A (q + 8) st (swapS σ τ υ left)) (PEx RO.bad w A σ (q + 8) st (swapS σ τ υ left)) := by
  k_with_none
  k_with "call ref" => (refine Made.use (made1 _ _) (by k_asm) (by k_asm) (by k_asm) (by k_asm) (by k_asm) (by first | assumption | rfl) ?Aa ?Ba ?_; (case Aa | Ba => walk_at "h9"); intro e di t k1 k2 h' tk' F' N' hne; refine ⟨_, _, _, rfl, Frag.In.keeps (by k_asm) (Fr.keep F'), (N' _ (.head _)).1, ?_⟩)
  k_with "call ref" => (refine' Spec.useK (s_kt w A ?Ab _ ?Bb υ ?Cb t2 ?Db bb ?Eb) ?Fb ?Gb ?Hb ?Ib ?Jb ?Kb ?Lb ?Mb ?_ ?_; (case Fb | Gb | Hb | Ib | Jb | Kb => walk_at "u9"); (case Ab => assumption); (case Bb => exact W.cons); (case Cb => assumption); (case Db => exact h2.up fun p hp => .tail _ hp); (case Eb => assumption); (case Lb | Mb => walk_at "h9"); rotate_left; exact OutE.none; intro K9 hK9; rintro v n h' tk' ⟨k⟩ F' N'; any_goals (refine hK9 _ _ _ ?_))
  k_with "call ref" => (refine' Spec.useK (s_kt w A ?Ac _ ?Bc τ ?Cc t1 ?Dc ba ?Ec) ?Fc ?Gc ?Hc ?Ic ?Jc ?Kc ?Lc ?Mc ?_ ?_; (case Fc | Gc | Hc | Ic | Jc | Kc => walk_at "u9"); (case Ac => assumption); (case Bc => exact W.cons); (case Cc => assumption); (case Dc => exact h1.up fun p hp => .tail _ hp); (case Ec => assumption); (case Lc | Mc => walk_at "h9"); rotate_left; exact OutE.none; intro K9 hK9; rintro v n h' tk' ⟨k⟩ F' N'; any_goals (refine hK9 _ _ _ ?_))
  k_with "compareOp NotEq str str" => (refine ne_str_b (kind_ne hnb) ?_)
  refine Spec.intro ?_
  intro p loose mean mg mb dp un gd cn cs a ccd cl outer A₀ base h₀ L m hs9 gs9 ds9 ks9 os9 Q E B F X N T hk hd hu hret hout
  revert X; k_fill; intro X
  refine wpAny_call ?_
  k_dflt ktr_enter
  k_steps
  all_goals first
    | exact hout _ _ _ _ _ _ _ _ _ _ _ ⟨left, if_pos (by rw [hba, hbb]; exact hnb), ((Left.refl W M).le (by walk_at "q9")).cons⟩ (by assumption) (by assumption) (by assumption)
theorem s_swap_eq (w : World) (A : Ad) (σ : Sg) (left : List Int) (q : Nat) (O : A.Ok w) (st : Led) (W : Wd A st) (M : Mu w A σ left q st) (hq : q ≤ 9970) (hσ : σ.Ok) (hl : LOk left) (τ υ : T) (hτ : τ.Tgt) (hυ : υ.Tgt) (t : Nat) (k0 : Tok) (t1 t2 : Nat) (ht : (t, tupOf [.str "SWAP" k0, .ref t1, .ref t2] 0) ∈ st) (h1 : Tr A.muts st τ (.ref t1)) (h2 : Tr A.muts st υ (.ref t2)) (ba : Bool) (hba : τ.isT = ba) (hbb : υ.isT = ba) : Spec w 239 [.ref A.run, .ref t] 30 st (PA w A (q + 8) st (swapS σ τ υ left)) (PEx RO.bad w A σ (q + 8) st (swapS σ τ υ left)) := by
  k_with_none
  k_with "call ref" => (refine' Spec.useK (s_kt w A ?Aa _ ?Ba υ ?Ca t2 ?Da ba ?Ea) ?Fa ?Ga ?Ha ?Ia ?Ja ?Ka ?La ?Ma ?_ ?_; (case Fa | Ga | Ha | Ia | Ja | Ka => walk_at "u9"); (case Aa => assumption); (case Ba => exact W.cons); (case Ca => assumption); (case Da => exact h2.up fun p hp => .tail _ hp); (case Ea => assumption); (case La | Ma => walk_at "h9"); rotate_left; exact OutE.none; intro K9 hK9; rintro v n h' tk' ⟨k⟩ F' N'; any_goals (refine hK9 _ _ _ ?_))
  k_with "call ref" => (refine' Spec.useK (s_kt w A ?Ab _ ?Bb τ ?Cb t1 ?Db ba ?Eb) ?Fb ?Gb ?Hb ?Ib ?Jb ?Kb ?Lb ?Mb ?_ ?_; (case Fb | Gb | Hb | Ib | Jb | Kb => walk_at "u9"); (case Ab => assumption); (case Bb => exact W.cons); (case Cb => assumption); (case Db => exact h1.up fun p hp => .tail _ hp); (case Eb => assumption); (case Lb | Mb => walk_at "h9"); rotate_left; exact OutE.none; intro K9 hK9; rintro v n h' tk' ⟨k⟩ F' N'; any_goals (refine hK9 _ _ _ ?_))
  k_with "call ref" => (refine' Spec.useK (s_pt w A σ left q ?Ac _ ?Bc ?Cc ?Dc ?Ec ?Fc τ ?Gc t1 ?Hc) ?Ic ?Jc ?Kc ?Lc ?Mc ?Nc ?Oc ?Pc ?_ ?_; (case Ic | Jc | Kc | Lc | Mc | Nc => walk_at "u9"); (case Ac => assumption); (case Bc => exact W.cons); (case Cc => exact M.cons); (case Dc => walk_at "q9"); (case Ec | Fc | Gc => assumption); (case Hc => exact h1.up fun p hp => .tail _ hp); (case Oc | Pc => walk_at "h9"); rotate_left; (rintro c told k1 k2 k3 e di n h' tk' G ⟨l', hb, LL⟩ F' R' U'); rotate_left; intro K9 hK9; rintro v n1 h' tk' ⟨p1, l1, hp1, LL1, hr1⟩ F' N'; obtain ⟨a1, rfl⟩ := hr1.ref; replace LL1 := LL1.drop; obtain ⟨ok1, is1, hl1⟩ := pl_ok hl hp1; have h2' := Tr.left LL1 h2; any_goals (refine hK9 _ _ _ ?_))
  k_with "call ref" => (refine' Spec.useK (s_pt w A σ l1 (q + 3) ?Ad _ ?Bd ?Cd ?Dd ?Ed ?Fd υ ?Gd t2 ?Hd) ?Id ?Jd ?Kd ?Ld ?Md ?Nd ?Od ?Pd ?_ ?_; (case Id | Jd | Kd | Ld | Md | Nd => walk_at "u9"); (case Ad => assumption); (case Bd => exact LL1.wd); (case Cd => exact LL1.mu); (case Dd => walk_at "q9"); (case Ed => assumption); (case Fd => exact hl1); (case Gd => assumption); (case Hd => exact h2'); (case Od | Pd => walk_at "h9"); rotate_left; (rintro c told k1 k2 k3 e di n h' tk' G ⟨l', hb2, LL2⟩ F' R' U'); rotate_left; intro K9 hK9; rintro v n2 h' tk' ⟨p2, l2, hp2, LL2, hr2⟩ F' N'; obtain ⟨a2, rfl⟩ := hr2.ref; have hr1b := hr1.up LL2.keep.m; obtain ⟨ok2, is2, hl2⟩ := pl_ok hl1 hp2; any_goals (refine hK9 _ _ _ ?_))
  k_with "call ref" => (refine' Spec.useK (s_va w A σ l2 (q + 6) ?Ae _ ?Be ?Ce ?De p1 ?Ee a1 ?Fe) ?Ge ?He ?Ie ?Je ?Ke ?Le ?Me ?Ne ?_ ?_; (case Ge | He | Ie | Je | Ke | Le => walk_at "u9"); (case Ae => assumption); (case Be => exact LL2.wd.cons); (case Ce => exact LL2.mu.cons); (case De => walk_at "q9"); (case Ee => assumption); (case Fe => exact hr1b.up (Keep.m Keep.cons)); (case Me | Ne => walk_at "h9"); rotate_left; exact OutE.none; intro K9 hK9; rintro w1 n3 h' tk' ⟨LL3, hv1⟩ F' N'; replace LL3 := LL3.drop; have hr1c := hr1b.up LL3.keep.m; have hr2c := hr2.up LL3.keep.m; any_goals (refine hK9 _ _ _ ?_))
  k_with "call ref" => (refine' Spec.useK (s_va w A σ l2 (q + 7) ?Af _ ?Bf ?Cf ?Df p2 ?Ef a2 ?Ff) ?Gf ?Hf ?If ?Jf ?Kf ?Lf ?Mf ?Nf ?_ ?_; (case Gf | Hf | If | Jf | Kf | Lf => walk_at "u9"); (case Af => assumption); (case Bf => exact LL3.wd); (case Cf => exact LL3.mu); (case Df => walk_at "q9"); (case Ef => assumption); (case Ff => exact hr2c); (case Mf | Nf => walk_at "h9"); rotate_left; exact OutE.none; intro K9 hK9; rintro w2 n4 h' tk' ⟨LL4, hv2⟩ F' N'; have hr1d := hr1c.up LL4.keep.m; have hr2d := hr2c.up LL4.keep.m; have hv1d := hv1.mono LL4.keep.2; any_goals (refine hK9 _ _ _ ?_))
  k_with "call ref" => (refine' Spec.useK (s_pa w A σ l2 (q + 8) ?Ag _ ?Bg ?Cg p1 ?Dg a1 ?Eg w2 (σ.at p2) ?Fg ?Gg) ?Hg ?Ig ?Jg ?Kg ?Lg ?Mg ?Ng ?Og ?_ ?_; (case Hg | Ig | Jg | Kg | Lg | Mg => walk_at "u9"); (case Ag => assumption); (case Bg => exact LL4.wd.cons); (case Cg => exact LL4.mu.cons); (case Dg => assumption); (case Eg => exact hr1d.up (Keep.m Keep.cons)); (case Fg => exact hv2.cons); (case Gg => exact (is1.trans (hba.trans (hbb.symm.trans is2.symm))) ▸ Sg.at_ok hσ ok2); (case Ng | Og => walk_at "h9"); rotate_left; exact OutE.none; intro K9 hK9; rintro v n5 h' tk' ⟨rfl, LL5⟩ F' N'; replace LL5 := LL5.drop; have hr2e := hr2d.up LL5.keep.m; have hv1e := hv1d.mono LL5.keep.2; any_goals (refine hK9 _ _ _ ?_))
  k_with "call ref" => (refine' Spec.useK (s_pa w A (σ.put (σ.at p2) p1) l2 (q + 8) ?Ah _ ?Bh ?Ch p2 ?Dh a2 ?Eh w1 (σ.at p1) ?Fh ?Gh) ?Hh ?Ih ?Jh ?Kh ?Lh ?Mh ?Nh ?Oh ?_ ?_; (case Hh | Ih | Jh | Kh | Lh | Mh => walk_at "u9"); (case Ah => assumption); (case Bh => exact LL5.wd); (case Ch => exact LL5.mu); (case Dh => assumption); (case Eh => exact hr2e); (case Fh => exact hv1e); (case Gh => exact (is2.trans (hbb.trans (hba.symm.trans is1.symm))) ▸ Sg.at_ok hσ ok1); (case Nh | Oh => walk_at "h9"); rotate_left; exact OutE.none; intro K9 hK9; rintro v n6 h' tk' ⟨rfl, LL6⟩ F' N'; any_goals (refine hK9 _ _ _ ?_))
  k_with "compareOp NotEq str str" => (refine ne_str_b kind_eq ?_)
  refine Spec.intro ?_
  intro p loose mean mg mb dp un gd cn cs a ccd cl outer A₀ base h₀ L m hs9 gs9 ds9 ks9 os9 Q E B F X N T hk hd hu hret hout
  revert X; k_fill; intro X
  refine wpAny_call ?_
  k_dflt ktr_enter
  k_steps
  all_goals first
    | exact hret _ _ _ _ ⟨_, l2, by unfold swapS; rw [if_neg (by rw [hba, hbb]; exact fun h => h rfl), hp1]; show (match pl σ υ l1 with | .bad c l => RO.bad c l | .ok r l => .ok ((σ.put (σ.at r) p1).put (σ.at p1) r) l) = _; rw [hp2], ((LL1.trans LL2).trans (LL3.trans LL4)).trans (LL5.trans LL6)⟩ (by k_asm) (by k_asm)
    | exact hout _ _ _ _ _ _ _ _ _ _ _ ⟨l', by unfold swapS; rw [if_neg (by rw [hba, hbb]; exact fun h => h rfl), hb], LL.drop.le (by walk_at "q9")⟩ (by assumption) (by assumption) (by assumption)
    | exact hout _ _ _ _ _ _ _ _ _ _ _ ⟨l', by unfold swapS; rw [if_neg (by rw [hba, hbb]; exact fun h => h rfl), hp1]; show (match pl σ υ l1 with | .bad c l => RO.bad c l | .ok r l => .ok ((σ.put (σ.at r) p1).put (σ.at p1) r) l) = _; rw [hb2], (LL1.trans LL2).le (by walk_at "q9")⟩ (by assumption) (by assumption) (by assumption)
theorem s_swap (w : World) (A : Ad) (σ : Sg) (left : List Int) (q : Nat) (O : A.Ok w) (st : Led) (W : Wd A st) (M : Mu w A σ left q st) (hq : q ≤ 9970) (hσ : σ.Ok) (hl : LOk left) (τ υ : T) (hτ : τ.Tgt) (hυ : υ.Tgt) (t : Nat) (k0 : Tok) (t1 t2 : Nat) (ht : (t, tupOf [.str "SWAP" k0, .ref t1, .ref t2] 0) ∈ st) (h1 : Tr A.muts st τ (.ref t1)) (h2 : Tr A.muts st υ (.ref t2)) : Spec w 239 [.ref A.run, .ref t] 30 st (PA w A (q + 8) st (swapS σ τ υ left)) (PEx RO.bad w A σ (q + 8) st (swapS σ τ υ left)) := by
  by_cases h : τ.isT = υ.isT
  · exact s_swap_eq w A σ left q O st W M hq hσ hl τ υ hτ hυ t k0 t1 t2 ht h1 h2 _ rfl h.symm
  · exact s_swap_ne w A σ left q O st W M hq hσ hl τ υ hτ hυ t k0 t1 t2 ht h1 h2 _ _ rfl rfl h
theorem s_text_bad_i (w : World) (news : Led) (x : Int) (k1 : Tok) : Spec w 142 [.int x k1] 4 news (fun _ _ => False) (fun c n => c = "TM" ∧ news = n) := by
  k_with_none
  k_with "call ref" => (refine Made.use (made1 _ _) (by k_asm) (by k_asm) (by k_asm) (by k_asm) (by k_asm) (by first | assumption | rfl) ?Aa ?Ba ?_; (case Aa | Ba => walk_at "h9"); intro e di t k1 k2 h' tk' F' N' hne; refine ⟨_, _, _, rfl, Frag.In.keeps (by k_asm) (Fr.keep F'), (N' _ (.head _)).1, ?_⟩)
  refine Spec.intro ?_
  intro p loose mean mg mb dp un gd cn cs a ccd cl outer A₀ base h₀ L m hs9 gs9 ds9 ks9 os9 Q E B F X N T hk hd hu hret hout
  revert X; k_fill; intro X
  refine wpAny_call ?_
  k_dflt ktr_enter
  k_steps
  all_goals first
    | exact hout _ _ _ _ _ _ _ _ _ _ _ ⟨rfl, rfl⟩ (by assumption) (by assumption) (by assumption)
theorem s_textV (w : World) (news : Led) (v : Value) (y : V) (h : PV news v y) : Spec w 142 [v] 4 news (fun v n => news = n ∧ ∃ x k, y = .txt x ∧ v = .str x k) (fun c n => c = "TM" ∧ news = n ∧ ∃ i, y = .num i) := by
  cases y with
  | txt x => obtain ⟨k, rfl⟩ := h; exact (s_text_ok w news x k).mono (fun v n h => by cases h with | mk k => exact ⟨rfl, x, k, rfl, rfl⟩) fun _ _ h => h.elim
  | num i =>
    rcases h with ⟨k, rfl⟩ | ⟨t, k1, k2, rfl, ht⟩
    · exact (s_text_bad_i w news i k).mono (fun v n h => h.elim) fun c n h => ⟨h.1, h.2, i, rfl⟩
    · exact (s_text_bad w news t i k1 k2 ht).mono (fun v n h => h.elim) fun c n h => ⟨h.1, h.2, i, rfl⟩
inductive MostIs (v : Value) (mm : Int) : Prop | no (e : v = .none) (e2 : mm = 9) | yes (k : Tok) (e : v = .int mm k)
inductive MidS (w : World) (A : Ad) (σ : Sg) (μ : Option T) (l2 : List Int) (q : Nat) (n2 : Led) (h₀ : Heap) (L : Addr) (m : Str → Option Value) (g : Array GenState) (d : Drawn) (o : OsState) : Value → Shared → Prop
  | mk {v : Value} {mm : Int} {l9 : List Int} {n9 : Led} {h' : Heap} {tk' : Nat} (e : evO σ μ l2 = .ok (.num mm) l9) (x : LOk l9) (y : MostIs v mm) (LL : Left w A σ l9 q n2 n9) (F : Fr h₀ L h' m) (N : News h₀ L h' n9) : MidS w A σ μ l2 q n2 h₀ L m g d o v ⟨h', g, d, tk', o⟩
inductive BoolIs (mm : Int) (h : Heap) (g : Array GenState) (d : Drawn) (o : OsState) : Bool → Shared → Prop
  | t {k : Nat} (x : mm < 0) : BoolIs mm h g d o true ⟨h, g, d, k, o⟩
  | f {k : Nat} (x : ¬ mm < 0) : BoolIs mm h g d o false ⟨h, g, d, k, o⟩
inductive ThirdIs (z mm : Int) (h : Heap) (g : Array GenState) (d : Drawn) (o : OsState) : Value → Shared → Prop
  | mk {v : Value} {c : Int} {u : Tok} {k : Nat} (e : v = .int c u) (x : c = mm ∨ c = z ∧ mm = 9) : ThirdIs z mm h g d o v ⟨h, g, d, k, o⟩
section
variable {h₀ h : Heap} {L : Addr} {m : Str → Option Value} {g : Array GenState} {d : Drawn} {k : Nat} {o : OsState} {M : Model} {B : Around} {E : Value → Shared → Prop} {vm : Value} {mm : Int}
theorem cutS (w : World) (A : Ad) (σ : Sg) (μ : Option T) (l2 : List Int) (q : Nat) (n2 : Led) {t : Sem Value} {Q : Value → Shared → Prop} (F : Fr h₀ L h m) (H1 : wpAny M B t (MidS w A σ μ l2 q n2 h₀ L m g d o) E ⟨h, g, d, k, o⟩)
    (H2 : ∀ v mm l9 n9 h' tk', evO σ μ l2 = .ok (.num mm) l9 → LOk l9 → MostIs v mm → Left w A σ l9 q n2 n9 → Fr h₀ L h' m → News h₀ L h' n9 → Q v ⟨h', g, d, tk', o⟩) : wpAny M B t Q E ⟨h, g, d, k, o⟩ :=
  wpAny_mono H1 (fun v s z => by cases z with | mk a b c d e f => exact H2 _ _ _ _ _ _ a b c d e f) fun _ _ e => e
theorem cutB {t : Sem Bool} {Q : Bool → Shared → Prop} (_ : MostIs vm mm) (H1 : wpAny M B t (BoolIs mm h g d o) E ⟨h, g, d, k, o⟩) (H2 : mm < 0 → ∀ k, Q true ⟨h, g, d, k, o⟩) (H3 : ¬ mm < 0 → ∀ k, Q false ⟨h, g, d, k, o⟩) : wpAny M B t Q E ⟨h, g, d, k, o⟩ :=
  wpAny_mono H1 (fun v s z => by cases z with | t a => exact H2 a _ | f a => exact H3 a _) fun _ _ e => e
theorem cutT (z : Int) {t : Sem Value} {Q : Value → Shared → Prop} (_ : MostIs vm mm) (H1 : wpAny M B t (ThirdIs z mm h g d o) E ⟨h, g, d, k, o⟩) (H2 : ∀ c u k, (c = mm ∨ c = z ∧ mm = 9) → Q (.int c u) ⟨h, g, d, k, o⟩) : wpAny M B t Q E ⟨h, g, d, k, o⟩ :=
  wpAny_mono H1 (fun v s z => by cases z with | mk e x => subst e; exact H2 _ _ _ x) fun _ _ e => e
theorem cmp9 {op : CmpOp} {v v' u : Value} {Q : Value → Shared → Prop} {s : Shared} (e : v = v') (h : wpAny M B (compareOp op v' u) Q E s) : wpAny M B (compareOp op v u) Q E s := e ▸ h
end
theorem Spec.arg {w : World} {f : Addr} {a v v' : Value} {d : Nat} {n : Led} {P : Value → Led → Prop} {R : Str → Led → Prop} (e : v = v') (H : Spec w f [a, v'] d n P R) : Spec w f [a, v] d n P R := e ▸ H
section
variable {b m c L z : Int}
theorem fc1 (h : ¬ 1 ≤ b) : m < 0 ∨ b < 1 ∨ L < b := .inr (.inl (Int.not_le.mp h))
theorem fc2 (h : ¬ b ≤ L) : m < 0 ∨ b < 1 ∨ L < b := .inr (.inr (Int.not_le.mp h))
theorem fc3 (h1 : 1 ≤ b) (h2 : b ≤ L) (h3 : ¬ m < 0) : ¬ (m < 0 ∨ b < 1 ∨ L < b) := by omega
theorem mid_eq9 {old x : Str} {rm : Int} (h1 : 1 ≤ b) (h2 : b ≤ old.length) (r1 : rm ≤ x.length) (r2 : rm ≤ old.length - b + 1) (r3 : rm ≤ c) (r4 : rm = x.length ∨ rm = old.length - b + 1 ∨ rm = c) (hc : c = m ∨ c = x.length ∧ m = 9) (hx : x.length ≤ 4) (hm : ¬ m < 0) :
    Txt.slice old none (some (b - 1)) ++ Txt.slice x none (some rm) ++ Txt.slice old (some (b - 1 + rm)) none = midL old x b m := by
  rcases hc with rfl | ⟨rfl, rfl⟩
  · exact mid_eq old x b c rm h1 h2 r1 r2 r3 r4 (Int.not_lt.mp hm)
  · exact mid_eq old x b 9 rm h1 h2 r1 r2 (Int.le_trans r1 (Int.le_trans (Int.ofNat_le.mpr hx) (by decide))) (r4.elim .inl fun h => h.elim (fun h => .inr (.inl h)) .inl) (by decide)
end
theorem s_mid (w : World) (A : Ad) (σ : Sg) (left : List Int) (q : Nat) (O : A.Ok w) (st : Led) (W : Wd A st) (M : Mu w A σ left q st) (hq : q ≤ 9970) (hσ : σ.Ok) (hl : LOk left) (τ φ υ : T) (hτ : τ.Tgt) (hτt : τ.isT = true) (hφ : φ.Ok) (hφn : φ.numb) (μ : Option T) (o5 : ∀ κ, μ = some κ → κ.Ok ∧ κ.numb) (hυ : υ.Ok) (hυs : υ.short) (t : Nat) (k0 : Tok) (tg tf tt : Nat) (vm : Value) (ht : (t, tupOf [.str "MIDSET" k0, .ref tg, .ref tf, vm, .ref tt] 0) ∈ st) (h1 : Tr A.muts st τ (.ref tg)) (h2 : Tr A.muts st φ (.ref tf)) (h3 : Tr A.muts st υ (.ref tt)) (h4 : ManyIs A.muts st μ vm) : Spec w 246 [.ref A.run, .ref t] 30 st (PA w A (q + 10) st (midS σ τ φ μ υ left)) (PEx RO.bad w A σ (q + 10) st (midS σ τ φ μ υ left)) := by
  k_with_none
  k_with "call ref" => (refine Made.use (made1 _ _) (by k_asm) (by k_asm) (by k_asm) (by k_asm) (by k_asm) (by first | assumption | rfl) ?Aa ?Ba ?_; (case Aa | Ba => walk_at "h9"); intro e di t k1 k2 h' tk' F' N' hne; refine ⟨_, _, _, rfl, Frag.In.keeps (by k_asm) (Fr.keep F'), (N' _ (.head _)).1, ?_⟩)
  k_with "call ref" => (refine' Spec.useK (s_pt w A σ left q ?Ab _ ?Bb ?Cb ?Db ?Eb ?Fb τ ?Gb tg ?Hb) ?Ib ?Jb ?Kb ?Lb ?Mb ?Nb ?Ob ?Pb ?_ ?_; (case Ib | Jb | Kb | Lb | Mb | Nb => walk_at "u9"); (case Ab | Bb | Cb => assumption); (case Db => walk_at "q9"); (case Eb | Fb => assumption); (case Gb | Hb => assumption); (case Ob | Pb => walk_at "h9"); rotate_left; (rintro c told k1 k2 k3 e di n h' tk' G ⟨lb1, hb1, LE1⟩ F' R' U'); rotate_left; intro K9 hK9; rintro v n1 h' tk' ⟨p1, l1, hp1, LL1, hr1⟩ F' N'; obtain ⟨a1, rfl⟩ := hr1.ref; obtain ⟨ok1, is1, hl1⟩ := pl_ok hl hp1; have h2' := Tr.left LL1 h2; have w1 := LL1.wd.run; have w2 := LL1.wd.dR; have h3' := Tr.left LL1 h3; any_goals (refine hK9 _ _ _ ?_))
  k_with "eval IfExp" => ((with_reducible show wpAny _ _ (eval (Expr.IfExp _ (Expr.Constant _ _ _) _ _) _) _ _ _); refine' cutS w A σ μ l2 (q + 7) n2 ?Fm ?_ ?_; (case Fm => k_asm); rotate_left; (intro vn mm l9 n9 h' tk' hm hl9 hv9 LL9 F' N'; have hr9 := hr2.up LL9.keep.m; have h39 := Tr.left LL9 h3''; have w5 := LL9.wd.run; have w6 := LL9.wd.dR); rotate_left; (rcases μ with _ | κ); (have e9 : vm = .none := h4); rotate_left; (obtain ⟨tm, e9⟩ := Tr.ref h4; have h4'' : Tr A.muts n2 κ (.ref tm) := Tr.left LL2 (Tr.left LL1 (e9 ▸ h4))))
  k_with "isTrue BoolOp" => ((with_reducible show wpAny _ _ (isTrue (Expr.BoolOp BoolOp.And (_ :: _ :: _) _) _ _) _ _ _); refine' cutB hv9 ?_ ?_ ?_; rotate_left; (intro hmn tkb); rotate_left; (intro hmn tkb); rotate_left; (rcases hv9 with ⟨e9, e8⟩ | ⟨km, e9⟩))
  k_with "eval IfExp" => ((with_reducible show wpAny _ _ (eval (Expr.IfExp _ (Expr.Call _ _ _ _) _ _) _) _ _ _); refine' cutT x.length hv9 ?_ ?_; rotate_left; (intro c9 u9 tkb hc9); rotate_left; (rcases hv9 with ⟨e9, e8⟩ | ⟨km, e9⟩))
  k_with "call ref" => (refine' Spec.useK ((s_rwhole w A σ l2 (q + 5) ?Ac _ ?Bc ?Cc ?Dc ?Ec ?Fc κ ?Gc ?Hc tm ?Ic).arg e9) ?Jc ?Kc ?Lc ?Mc ?Nc ?Oc ?Pc ?Qc ?_ ?_; (case Jc | Kc | Lc | Mc | Nc | Oc => walk_at "u9"); (case Ac => assumption); (case Bc => exact LL2.wd); (case Cc => exact LL2.mu); (case Dc => walk_at "q9"); (case Ec | Fc => assumption); (case Gc => exact (o5 _ rfl).1); (case Hc => exact (o5 _ rfl).2); (case Ic => exact h4''); (case Pc | Qc => walk_at "h9"); rotate_left; (rintro c told k1 k2 k3 e di n h' tk' G ⟨lb9, hb9, LE9⟩ F' R' U'); rotate_left; intro K9 hK9; rintro v n9 h' tk' ⟨mm, l9, km9, hm, LL9, rfl⟩ F' N'; have hl9 : LOk l9 := (by have z := ev_left (σ := σ) (τ := κ) hl2; rw [hm] at z; exact z); any_goals (refine hK9 _ _ _ ?_))
  k_with "call ref" => (refine' Spec.useK (s_rwhole w A σ l1 (q + 3) ?Ad _ ?Bd ?Cd ?Dd ?Ed ?Fd φ ?Gd ?Hd tf ?Id) ?Jd ?Kd ?Ld ?Md ?Nd ?Od ?Pd ?Qd ?_ ?_; (case Jd | Kd | Ld | Md | Nd | Od => walk_at "u9"); (case Ad => assumption); (case Bd => exact LL1.wd); (case Cd => exact LL1.mu); (case Dd => walk_at "q9"); (case Ed | Fd => assumption); (case Gd | Hd => assumption); (case Id => exact h2'); (case Pd | Qd => walk_at "h9"); rotate_left; (rintro c told k1 k2 k3 e di n h' tk' G ⟨lb2, hb2, LE2⟩ F' R' U'); rotate_left; intro K9 hK9; rintro v n2 h' tk' ⟨b, l2, kb, hb, LL2, rfl⟩ F' N'; have hr2 := hr1.up LL2.keep.m; have h3'' := Tr.left LL2 h3'; have w3 := LL2.wd.run; have w4 := LL2.wd.dR; have hl2 : LOk l2 := (by have z := ev_left (σ := σ) (τ := φ) hl1; rw [hb] at z; exact z); any_goals (refine hK9 _ _ _ ?_))
  k_with "call ref" => (refine' Spec.useK (s_rworth w A σ l9 (q + 7) ?Ae _ ?Be ?Ce ?De ?Ee ?Fe υ ?Ge tt ?He) ?Ie ?Je ?Ke ?Le ?Me ?Ne ?Oe ?Pe ?_ ?_; (case Ie | Je | Ke | Le | Me | Ne => walk_at "u9"); (case Ae => assumption); (case Be => exact LL9.wd.cons); (case Ce => exact LL9.mu.cons); (case De => walk_at "q9"); (case Ee | Fe | Ge => assumption); (case He => exact h39.up fun p hp => .tail _ hp); (case Oe | Pe => walk_at "h9"); rotate_left; (rintro c told k1 k2 k3 e di n h' tk' G ⟨lb3, hb3, LE3⟩ F' R' U'); rotate_left; intro K9 hK9; rintro v n3 h' tk' ⟨y, l3, hy, LL3, hv⟩ F' N'; replace LL3 := LL3.drop; have hr3 := hr9.up LL3.keep.m; any_goals (refine hK9 _ _ _ ?_))
  k_with "call ref" => (refine' Spec.useK (s_text_ok w _ old _) ?Af ?Bf ?Cf ?Df ?Ef ?Ff ?Gf ?Hf ?_ ?_; (case Af | Bf | Cf | Df | Ef | Ff => walk_at "u9"); (case Gf | Hf => walk_at "h9"); rotate_left; exact OutE.none; intro K9 hK9; rintro v n h' tk' ⟨ko⟩ F' N'; any_goals (refine hK9 _ _ _ ?_))
  k_with "call ref" => (refine' Spec.useK (s_textV w _ _ y ?Ag) ?Bg ?Cg ?Dg ?Eg ?Fg ?Gg ?Hg ?Ig ?_ ?_; (case Bg | Cg | Dg | Eg | Fg | Gg => walk_at "u9"); (case Ag => assumption); (case Hg | Ig => walk_at "h9"); rotate_left; (rintro c told k1 k2 k3 e di n h' tk' G ⟨rfl, rfl, i, rfl⟩ F' R' U'); rotate_left; intro K9 hK9; rintro v n h' tk' ⟨rfl, x, kx, rfl, rfl⟩ F' N'; have hxl := ev_txt hσ hυs hy; any_goals (refine hK9 _ _ _ ?_))
  k_with "call ref" => (refine' Spec.useK (s_va w A σ l3 (q + 9) ?Ah _ ?Bh ?Ch ?Dh p1 ?Eh a1 ?Fh) ?Gh ?Hh ?Ih ?Jh ?Kh ?Lh ?Mh ?Nh ?_ ?_; (case Gh | Hh | Ih | Jh | Kh | Lh => walk_at "u9"); (case Ah => assumption); (case Bh => exact LL3.wd); (case Ch => exact LL3.mu); (case Dh => walk_at "q9"); (case Eh => assumption); (case Fh => exact hr3); (case Mh | Nh => walk_at "h9"); rotate_left; exact OutE.none; intro K9 hK9; rintro w1 n4 h' tk' ⟨LL4, hv1⟩ F' N'; obtain ⟨old, hold, hlen⟩ := at_txt hσ ok1 (is1.trans hτt); rw [hold] at hv1; obtain ⟨ko, rfl⟩ := hv1; have hr4 := hr3.up LL4.keep.m; any_goals (refine hK9 _ _ _ ?_))
  k_with "call ref" => (refine' Spec.useK (s_pa w A σ l3 (q + 10) ?Ai _ ?Bi ?Ci p1 ?Di a1 ?Ei _ (.txt (midL old x b mm)) ?Fi ?Gi) ?Hi ?Ii ?Ji ?Ki ?Li ?Mi ?Ni ?Oi ?_ ?_; (case Hi | Ii | Ji | Ki | Li | Mi => walk_at "u9"); (case Ai => assumption); (case Bi => exact LL4.wd.cons); (case Ci => exact LL4.mu.cons); (case Di => assumption); (case Ei => exact hr4.up (Keep.m Keep.cons)); (case Fi => exact ⟨_, congrArg (fun z => Value.str z _) (mid_eq9 (by assumption) (by assumption) hm1 hm2 hm3 hm4 hc9 hxl (by assumption))⟩); (case Gi => (rw [is1, hτt]; show (midL old x b mm).length ≤ 4; rw [midL_len]; exact hlen)); (case Ni | Oi => walk_at "h9"); rotate_left; exact OutE.none; intro K9 hK9; rintro v n5 h' tk' ⟨rfl, LL5⟩ F' N'; replace LL5 := LL5.drop; any_goals (refine hK9 _ _ _ ?_))
  k_with "call builtin:min" => (refine' min3 ?Aj ?Bj ?Cj ?_; (case Aj | Bj => k_asm); (case Cj => rfl); k_whole; intro rm h' tk' km hm1 hm2 hm3 hm4 F' N')
  refine Spec.intro ?_
  intro p loose mean mg mb dp un gd cn cs a ccd cl outer A₀ base h₀ L m hs9 gs9 ds9 ks9 os9 Q E B F X N T hk hd hu hret hout
  have m5 := W.run; have m6 := W.dR; have e6 := O.rNo "worth" (by simp); have e7 := O.rNo "whole" (by simp)
  revert X; k_fill; intro X
  refine wpAny_call ?_
  k_dflt ktr_enter
  k_steps
  all_goals (try (refine' cmp9 e9 ?_; k_steps))
  all_goals (try (refine' cmp9 e9 ?_; k_steps))
  all_goals first
    | exact MidS.mk hm hl9 (.yes _ rfl) LL9 (by k_asm) (by k_asm)
    | exact MidS.mk rfl hl2 (.no rfl rfl) ((Left.refl LL2.wd LL2.mu).le (by walk_at "q9")) (by k_asm) (by k_asm)
    | exact BoolIs.t (by assumption)
    | exact BoolIs.f (by first | assumption | (rw [e8]; decide))
    | exact ThirdIs.mk e9 (.inl rfl)
    | exact ThirdIs.mk rfl (.inr ⟨rfl, e8⟩)
    | exact hret _ _ _ _ ⟨_, l3, midr_ok hp1 hb hm hy hold (fc3 (by assumption) (by assumption) (by assumption)), ((((LL1.trans LL2).trans LL9).trans LL3).trans (LL4.trans LL5)).le (by walk_at "q9")⟩ (by k_asm) (by k_asm)
    | exact hout _ _ _ _ _ _ _ _ _ _ _ ⟨l3, mid_fc hp1 hb hm hy hold (by first | exact fc1 (by assumption) | exact fc2 (by assumption) | exact .inl (by assumption)), ((((LL1.trans LL2).trans LL9).trans LL3).trans LL4).le (by walk_at "q9") |>.cons⟩ (by assumption) (by assumption) (by assumption)
    | exact hout _ _ _ _ _ _ _ _ _ _ _ ⟨l3, mid_bn hp1 hb hm hy, (((LL1.trans LL2).trans LL9).trans LL3).le (by walk_at "q9")⟩ (by assumption) (by assumption) (by assumption)
    | exact hout _ _ _ _ _ _ _ _ _ _ _ ⟨lb3, mid_b3 hp1 hb hm hb3, (((LL1.trans LL2).trans LL9).trans LE3.drop).le (by walk_at "q9")⟩ (by assumption) (by assumption) (by assumption)
    | exact hout _ _ _ _ _ _ _ _ _ _ _ ⟨lb2, mid_b2 hp1 hb2, (LL1.trans LE2).le (by walk_at "q9")⟩ (by assumption) (by assumption) (by assumption)
    | exact hout _ _ _ _ _ _ _ _ _ _ _ ⟨lb1, mid_b1 hb1, LE1.le (by walk_at "q9")⟩ (by assumption) (by assumption) (by assumption)
    | exact hout _ _ _ _ _ _ _ _ _ _ _ ⟨lb9, mid_b9 hp1 hb hb9, ((LL1.trans LL2).trans LE9).le (by walk_at "q9")⟩ (by assumption) (by assumption) (by assumption)
theorem l_key_n (w : World) (bk : Nat) (st : Led) (t : Nat) (k1 k2 : Tok) (x : Str) (ht : (t, tupOf [.str "name" k1, .str x k2] 0) ∈ st) : Spec w 771 [.ref bk, .ref t] 4 st (fun v n => st = n ∧ v = .str x k2) (fun _ _ => False) := by
  k_with_none
  refine Spec.intro ?_
  intro p loose mean mg mb dp un gd cn cs a ccd cl outer A₀ base h₀ L m hs9 gs9 ds9 ks9 os9 Q E B F X N T hk hd hu hret hout
  revert X; k_fill; intro X
  refine wpAny_call ?_
  k_dflt ktr_enter
  k_steps
  all_goals first
    | exact hret _ _ _ _ ⟨rfl, rfl⟩ (by k_asm) (by k_asm)
theorem l_wh_i (w : World) (bk : Nat) (st : Led) (t : Nat) (k1 k2 : Tok) (x : Int) (ht : (t, tupOf [.str "whole" k1, .int x k2] 0) ∈ st) : Spec w 778 [.ref bk, .ref t] 4 st (fun v n => st = n ∧ v = .int x k2) (fun _ _ => False) := by
  k_with_none
  refine Spec.intro ?_
  intro p loose mean mg mb dp un gd cn cs a ccd cl outer A₀ base h₀ L m hs9 gs9 ds9 ks9 os9 Q E B F X N T hk hd hu hret hout
  revert X; k_fill; intro X
  refine wpAny_call ?_
  k_dflt ktr_enter
  k_steps
  all_goals first
    | exact hret _ _ _ _ ⟨rfl, rfl⟩ (by k_asm) (by k_asm)
theorem l_wh_t (w : World) (bk : Nat) (st : Led) (t : Nat) (k1 k2 : Tok) (x : Str) (ht : (t, tupOf [.str "text" k1, .str x k2] 0) ∈ st) : Spec w 778 [.ref bk, .ref t] 4 st (fun v n => st = n ∧ v = .str x k2) (fun _ _ => False) := by
  k_with_none
  refine Spec.intro ?_
  intro p loose mean mg mb dp un gd cn cs a ccd cl outer A₀ base h₀ L m hs9 gs9 ds9 ks9 os9 Q E B F X N T hk hd hu hret hout
  revert X; k_fill; intro X
  refine wpAny_call ?_
  k_dflt ktr_enter
  k_steps
  all_goals first
    | exact hret _ _ _ _ ⟨rfl, rfl⟩ (by k_asm) (by k_asm)
theorem l_wh_g (w : World) (bk : Nat) (st : Led) (t : Nat) (k1 k2 : Tok) (k3 : Tok) (t2 : Nat) (x : Int) (ht : (t, tupOf [.str "neg" k1, .ref t2] 0) ∈ st) (ht2 : (t2, tupOf [.str "whole" k2, .int x k3] 0) ∈ st) : Spec w 778 [.ref bk, .ref t] 4 st (GotI st (0 - x)) (fun _ _ => False) := by
  k_with_none
  refine Spec.intro ?_
  intro p loose mean mg mb dp un gd cn cs a ccd cl outer A₀ base h₀ L m hs9 gs9 ds9 ks9 os9 Q E B F X N T hk hd hu hret hout
  revert X; k_fill; intro X
  refine wpAny_call ?_
  k_dflt ktr_enter
  k_steps
  all_goals first
    | exact hret _ _ _ _ ⟨_⟩ (by k_asm) (by k_asm)
theorem l_wh_n (w : World) (bk lf : Nat) (σ : Sg) (left : List Int) (st : Led) (τ : T) (hτ : τ.Tgt) (hl : LOk left) (t l : Nat) (k1 k2 : Tok) (x : Str) (ht : (t, tupOf [.str "name" k1, .str x k2] 0) ∈ st) (d : Nat) (HK : Spec w 771 [.ref bk, .ref t] d st (PK w bk lf σ st (pl σ τ left)) (PLx RPl.bad w bk lf σ st (pl σ τ left))) : Spec w 778 [.ref bk, .ref t] (d + 2) st (PB w bk lf σ st (ev σ τ left)) (PLx Rs.bad w bk lf σ st (ev σ τ left)) := by
  k_with_none
  k_with "call ref" => (refine' Spec.useK (HK) ?Aa ?Ba ?Ca ?Da ?Ea ?Fa ?Ga ?Ha ?_ ?_; (case Aa | Ba | Ca | Da | Ea | Fa => walk_at "u9"); (case Ga | Ha => walk_at "h9"); rotate_left; (rintro c told k1 k2 k3 e di n h' tk' G ⟨l', hb, LL⟩ F' R' U'); rotate_left; intro K9 hK9; rintro v n h' tk' ⟨p1, l1, hp1, LL, hk⟩ F' N'; obtain ⟨ok1, is1, hl1⟩ := pl_ok hl hp1; obtain ⟨o, xs, hm, hB, hS⟩ := LL.bo.book; obtain ⟨y, hy, hby⟩ := hS.look p1 ok1; have hw := hS.two; any_goals (refine hK9 _ _ _ ?_))
  k_with "subscriptTail" => (refine' item_B ?Ab ?Bb ?Cb ?Db ?Eb ?Fb ?Gb ?_ ?Hb; (case Ab => ktr_units); (case Bb => k_asm); (case Cb | Db => assumption); (case Eb | Fb | Gb => assumption); (case Hb => with_unfolding_all rfl); k_whole; intro tk)
  k_with "subscriptTail Name Constant ref int" => (refine' item_B ?Ac ?Bc ?Cc ?Dc ?Ec ?Fc ?Gc ?_ ?Hc; (case Ac => ktr_units); (case Bc => k_asm); (case Cc | Dc => assumption); (case Ec | Fc | Gc => assumption); (case Hc => with_unfolding_all rfl); k_whole; intro tk)
  refine Spec.intro ?_
  intro p loose mean mg mb dp un gd cn cs a ccd cl outer A₀ base h₀ L m hs9 gs9 ds9 ks9 os9 Q E B F X N T hk hd hu hret hout
  revert X; k_fill; intro X
  refine wpAny_call ?_
  k_dflt ktr_enter
  k_steps
  all_goals first
    | exact hret _ _ _ _ ⟨σ.at p1, l1, by rw [ev_pl hτ, hp1]; rfl, LL, hby⟩ (by k_asm) (by k_asm)
    | exact hout _ _ _ _ _ _ _ _ _ _ _ ⟨l', by rw [ev_pl hτ, hb]; rfl, LL⟩ (by assumption) (by assumption) (by assumption)
theorem l_wh_a (w : World) (bk lf : Nat) (σ : Sg) (left : List Int) (st : Led) (τ : T) (hτ : τ.Tgt) (hl : LOk left) (t l : Nat) (k1 k2 : Tok) (x : Str) (ht : (t, tupOf [.str "item" k1, .str x k2, .ref l] 0) ∈ st) (d : Nat) (HK : Spec w 771 [.ref bk, .ref t] d st (PK w bk lf σ st (pl σ τ left)) (PLx RPl.bad w bk lf σ st (pl σ τ left))) : Spec w 778 [.ref bk, .ref t] (d + 2) st (PB w bk lf σ st (ev σ τ left)) (PLx Rs.bad w bk lf σ st (ev σ τ left)) := by
  k_with_none
  k_with "call ref" => (refine' Spec.useK (HK) ?Aa ?Ba ?Ca ?Da ?Ea ?Fa ?Ga ?Ha ?_ ?_; (case Aa | Ba | Ca | Da | Ea | Fa => walk_at "u9"); (case Ga | Ha => walk_at "h9"); rotate_left; (rintro c told k1 k2 k3 e di n h' tk' G ⟨l', hb, LL⟩ F' R' U'); rotate_left; intro K9 hK9; rintro v n h' tk' ⟨p1, l1, hp1, LL, hk⟩ F' N'; obtain ⟨ok1, is1, hl1⟩ := pl_ok hl hp1; obtain ⟨o, xs, hm, hB, hS⟩ := LL.bo.book; obtain ⟨y, hy, hby⟩ := hS.look p1 ok1; have hw := hS.two; any_goals (refine hK9 _ _ _ ?_))
  k_with "subscriptTail" => (refine' item_B ?Ab ?Bb ?Cb ?Db ?Eb ?Fb ?Gb ?_ ?Hb; (case Ab => ktr_units); (case Bb => k_asm); (case Cb | Db => assumption); (case Eb | Fb | Gb => assumption); (case Hb => with_unfolding_all rfl); k_whole; intro tk)
  k_with "subscriptTail Name Constant ref int" => (refine' item_B ?Ac ?Bc ?Cc ?Dc ?Ec ?Fc ?Gc ?_ ?Hc; (case Ac => ktr_units); (case Bc => k_asm); (case Cc | Dc => assumption); (case Ec | Fc | Gc => assumption); (case Hc => with_unfolding_all rfl); k_whole; intro tk)
  refine Spec.intro ?_
  intro p loose mean mg mb dp un gd cn cs a ccd cl outer A₀ base h₀ L m hs9 gs9 ds9 ks9 os9 Q E B F X N T hk hd hu hret hout
  revert X; k_fill; intro X
  refine wpAny_call ?_
  k_dflt ktr_enter
  k_steps
  all_goals first
    | exact hret _ _ _ _ ⟨σ.at p1, l1, by rw [ev_pl hτ, hp1]; rfl, LL, hby⟩ (by k_asm) (by k_asm)
    | exact hout _ _ _ _ _ _ _ _ _ _ _ ⟨l', by rw [ev_pl hτ, hb]; rfl, LL⟩ (by assumption) (by assumption) (by assumption)
theorem l_fn_nil (w : World) (bk lf : Nat) (σ : Sg) (left : List Int) (st : Led) (BB : Bo w bk lf σ left st) (t l0 : Nat) (k1 k2 : Tok) (ht : (t, tupOf [.str "fn" k1, .str "FNR" k2, .ref l0] 0) ∈ st) (nf : Nat) (hF : (lf, listOf #[] nf) ∈ st) (hI : IntsAre [] left) : Spec w 778 [.ref bk, .ref t] 6 st (fun v n => False) (fun c n => c = "UF" ∧ LB w bk lf σ left st n) := by
  k_with_none
  k_with "call ref" => (refine Made.use (made1 _ _) (by k_asm) (by k_asm) (by k_asm) (by k_asm) (by k_asm) (by first | assumption | rfl) ?Aa ?Ba ?_; (case Aa | Ba => walk_at "h9"); intro e di t k1 k2 h' tk' F' N' hne; refine ⟨_, _, _, rfl, Frag.In.keeps (by k_asm) (Fr.keep F'), (N' _ (.head _)).1, ?_⟩)
  k_with "subscriptTail" => (refine' item_B (k := .s "left") ?Ab ?Bb ?Cb ?Db ?Eb ?Fb ?Gb ?_ ?Hb; (case Ab => ktr_units); (case Bb => k_asm); (case Cb => walk_at "m9"); (case Db => exact hB0); (case Eb => exact ⟨_, rfl⟩); (case Fb => exact hS.two); (case Gb => exact hS.left); (case Hb => with_unfolding_all rfl); k_whole; intro tk)
  k_with "subscriptTail Name Constant ref int" => (refine' item_B (k := .s "left") ?Ac ?Bc ?Cc ?Dc ?Ec ?Fc ?Gc ?_ ?Hc; (case Ac => ktr_units); (case Bc => k_asm); (case Cc => walk_at "m9"); (case Dc => exact hB0); (case Ec => exact ⟨_, rfl⟩); (case Fc => exact hS.two); (case Gc => exact hS.left); (case Hc => with_unfolding_all rfl); k_whole; intro tk)
  k_with "compareOp Eq ref ref" => (refine' eq_nil ?Ad ?Bd ?Cd ?Dd ?_; (case Ad => ktr_units); (case Bd => k_asm); (case Cd | Dd => walk_at "m9"); k_whole)
  refine Spec.intro ?_
  intro p loose mean mg mb dp un gd cn cs a ccd cl outer A₀ base h₀ L m hs9 gs9 ds9 ks9 os9 Q E B F X N T hk hd hu hret hout
  obtain ⟨o, xs, hm, hB0, hS⟩ := BB.book
  have hB : ∀ y, BookO w (y :: st) o xs := fun y => hB0.up fun _ h _ => .tail _ h
  revert X; k_fill; intro X
  refine wpAny_call ?_
  k_dflt ktr_enter
  k_steps
  all_goals first
    | exact hout _ _ _ _ _ _ _ _ _ _ _ ⟨rfl, (LB.refl BB).cons⟩ (by assumption) (by assumption) (by assumption)
theorem l_fn_cons (w : World) (bk lf : Nat) (σ : Sg) (left : List Int) (st : Led) (BB : Bo w bk lf σ left st) (t l0 : Nat) (k1 k2 : Tok) (ht : (t, tupOf [.str "fn" k1, .str "FNR" k2, .ref l0] 0) ∈ st) (nf : Nat) (v0 : Value) (vs : List Value) (hvs : vs.length ≤ 100) (hF : (lf, listOf (v0 :: vs).toArray nf) ∈ st) (r : List Int) (hI : IntsAre vs r) : Spec w 778 [.ref bk, .ref t] 6 st (fun v n => v = v0 ∧ LB w bk lf σ r st n) (fun _ _ => False) := by
  k_with_none
  k_with "subscriptTail" => (refine' item_B (k := .s "left") ?Aa ?Ba ?Ca ?Da ?Ea ?Fa ?Ga ?_ ?Ha; (case Aa => ktr_units); (case Ba => k_asm); (case Ca => walk_at "m9"); (case Da => exact hB1.up fun _ h _ => by (repeat (first | exact h | refine List.Mem.tail _ ?_))); (case Ea => exact ⟨_, rfl⟩); (case Fa => exact hS.two); (case Ga => exact hS.left); (case Ha => with_unfolding_all rfl); k_whole; intro tk)
  k_with "subscriptTail Name Constant ref int" => (refine' item_B (k := .s "left") ?Ab ?Bb ?Cb ?Db ?Eb ?Fb ?Gb ?_ ?Hb; (case Ab => ktr_units); (case Bb => k_asm); (case Cb => walk_at "m9"); (case Db => exact hB1.up fun _ h _ => by (repeat (first | exact h | refine List.Mem.tail _ ?_))); (case Eb => exact ⟨_, rfl⟩); (case Fb => exact hS.two); (case Gb => exact hS.left); (case Hb => with_unfolding_all rfl); k_whole; intro tk)
  k_with "compareOp Eq ref ref" => (refine' eq_len ?Ac ?Bc ?Cc ?Dc ?Ec ?_; (case Ac => ktr_units); (case Bc => k_asm); (case Cc | Dc => walk_at "m9"); (case Ec => rfl); k_whole)
  k_with "call builtin:list.pop" => (refine' kl_popAt (its := (v0 :: vs).toArray) (k := 0) (p := []) (q := vs) (y := v0) ?Ad ?Bd ?Cd ?Dd ?Ed ?Fd ?Gd ?_; (case Ad | Bd => k_asm); (case Cd => decide); (case Dd => simp [seqIndex?]); (case Ed => rfl); (case Fd => k_upd); (case Gd => (simp [sizeLine_eq]; omega)); k_whole; intro h9 F9 N9; (try simp only [List.nil_append] at N9))
  refine Spec.intro ?_
  intro p loose mean mg mb dp un gd cn cs a ccd cl outer A₀ base h₀ L m hs9 gs9 ds9 ks9 os9 Q E B F X N T hk hd hu hret hout
  obtain ⟨o, xs, hm, hB0, hS⟩ := BB.book
  have hne := book_ne N hm hB0 hF
  have PP : ∀ k, LB w bk lf σ r st ((lf, listOf vs.toArray k) :: off st lf) := fun k => BB.pop N hF hI
  have OFF : OwnOff (off st lf) [lf] := off_own
  have hm2 : (bk, o) ∈ off st lf := off_mem.mpr ⟨hm, hne⟩
  have up : ∀ p ∈ st, p.2.cls = .type "tuple" → p ∈ off st lf := fun p hp hc => off_mem.mpr ⟨hp, tup_ne N hF list_nt p hp hc⟩
  have ht2 := up _ ht rfl
  have hB1 := hB0.up up
  replace N := news_off N hF
  revert X; k_fill; intro X
  refine wpAny_call ?_
  k_dflt ktr_enter
  k_steps
  all_goals first
    | exact hret _ _ _ _ ⟨rfl, (PP _).cons⟩ (by k_asm) (by k_asm)
theorem l_fn (w : World) (bk lf : Nat) (σ : Sg) (left : List Int) (st : Led) (BB : Bo w bk lf σ left st) (hl : LOk left) (t l0 : Nat) (k1 k2 : Tok) (ht : (t, tupOf [.str "fn" k1, .str "FNR" k2, .ref l0] 0) ∈ st) : Spec w 778 [.ref bk, .ref t] 6 st (PB w bk lf σ st (evF left)) (PLx Rs.bad w bk lf σ st (evF left)) := by
  obtain ⟨vs, nf, hF, hI⟩ := BB.left
  cases hI with
  | nil => exact (l_fn_nil w bk lf σ [] st BB t l0 k1 k2 ht nf hF .nil).mono (fun _ _ h => h.elim) fun c n h => ⟨[], by rw [h.1]; rfl, h.2⟩
  | @cons x k vs r hI => exact (l_fn_cons w bk lf σ (x :: r) st BB t l0 k1 k2 ht nf _ vs (by have z := hl.1; rw [List.length_cons, ← hI.length] at z; omega) hF r hI).mono (fun v n h => ⟨.num x, r, rfl, h.2, k, h.1⟩) fun _ _ h => h.elim
theorem l_key_i (w : World) (bk lf : Nat) (σ : Sg) (left : List Int) (st : Led) (hσ : σ.Ok) (hl : LOk left) (b : Ar) (κ : T) (hn : κ.numb) (t l nl u : Nat) (k1 k2 : Tok) (ht : (t, tupOf [.str "item" k1, .str b.word k2, .ref l] 0) ∈ st) (hl0 : (l, listOf #[.ref u] nl) ∈ st) (d : Nat) (HW : Spec w 778 [.ref bk, .ref u] d st (PB w bk lf σ st (ev σ κ left)) (PLx Rs.bad w bk lf σ st (ev σ κ left))) : Spec w 771 [.ref bk, .ref t] (d + 4) st (PK w bk lf σ st (plI b (ev σ κ left))) (PLx RPl.bad w bk lf σ st (plI b (ev σ κ left))) := by
  k_with_none
  k_with "call ref" => (refine Made.use (made1 _ _) (by k_asm) (by k_asm) (by k_asm) (by k_asm) (by k_asm) (by first | assumption | rfl) ?Aa ?Ba ?_; (case Aa | Ba => walk_at "h9"); intro e di t k1 k2 h' tk' F' N' hne; refine ⟨_, _, _, rfl, Frag.In.keeps (by k_asm) (Fr.keep F'), (N' _ (.head _)).1, ?_⟩)
  k_with "call ref" => (refine' Spec.useK (HW) ?Ab ?Bb ?Cb ?Db ?Eb ?Fb ?Gb ?Hb ?_ ?_; (case Ab | Bb | Cb | Db | Eb | Fb => walk_at "u9"); (case Gb | Hb => walk_at "h9"); rotate_left; (rintro c told k1 k2 k3 e di n h' tk' G ⟨l', hb, LL⟩ F' R' U'); rotate_left; intro K9 hK9; rintro v n h' tk' ⟨y, l1, hy, LL, hv⟩ F' N'; obtain ⟨i, rfl, hi1, hi2⟩ := ev_num hσ hl hn hy; obtain ⟨kv, rfl⟩ := hv; have ht2 := LL.keep.2 _ ht rfl; any_goals (refine hK9 _ _ _ ?_))
  k_with "subscriptTail" => (refine' item_listN ?Ac ?Bc ?Cc ?Dc ?Ec ?_ ?Fc; (case Ac => k_asm); (case Bc => walk_at "m9"); (case Cc | Dc => decide); (case Ec => rfl); (case Fc => with_unfolding_all rfl); k_whole)
  k_with "subscriptTail Name Constant ref int" => (refine' item_listN ?Ad ?Bd ?Cd ?Dd ?Ed ?_ ?Fd; (case Ad => k_asm); (case Bd => walk_at "m9"); (case Cd | Dd => decide); (case Ed => rfl); (case Fd => with_unfolding_all rfl); k_whole)
  refine Spec.intro ?_
  intro p loose mean mg mb dp un gd cn cs a ccd cl outer A₀ base h₀ L m hs9 gs9 ds9 ks9 os9 Q E B F X N T hk hd hu hret hout
  revert X; k_fill; intro X
  refine wpAny_call ?_
  k_dflt ktr_enter
  k_steps
  all_goals first
    | exact hret _ _ _ _ ⟨.a b i, l1, by rw [hy]; exact if_pos (by omega), LL.cons, _, _, _, rfl, .head _⟩ (by k_asm) (by k_asm)
    | exact hout _ _ _ _ _ _ _ _ _ _ _ ⟨l1, by rw [hy]; exact if_neg (by omega), LL⟩ (by assumption) (by assumption) (by assumption)
    | exact hout _ _ _ _ _ _ _ _ _ _ _ ⟨l', by rw [hb]; rfl, LL⟩ (by assumption) (by assumption) (by assumption)
section
section
variable (w : World) (bk lf : Nat) (σ : Sg) (left : List Int) (st : Led) (BB : Bo w bk lf σ left st) (hσ : σ.Ok) (hl : LOk left) (Ms : List Nat)
include BB hl
theorem l_key_name (p : Nm) (t : Nat) (h : Tr Ms st (.name p) (.ref t)) : Spec w 771 [.ref bk, .ref t] 4 st (PK w bk lf σ st (pl σ (.name p) left)) (PLx RPl.bad w bk lf σ st (pl σ (.name p) left)) := by
  obtain ⟨t, k1, k2, e, a⟩ := h
  cases e
  exact (l_key_n w bk st t k1 k2 _ a).mono (fun v n h => ⟨.n p, left, rfl, h.1 ▸ LB.refl BB, k2, h.2⟩) fun _ _ h => h.elim
theorem l_worth_s (τ : T) (hτ : τ.simple) (t : Nat) (h : Tr Ms st τ (.ref t)) : Spec w 778 [.ref bk, .ref t] 6 st (PB w bk lf σ st (ev σ τ left)) (PLx Rs.bad w bk lf σ st (ev σ τ left)) := by
  cases τ with
  | whole x => obtain ⟨t, k1, k2, e, a⟩ := h; cases e; exact (l_wh_i w bk st t k1 k2 _ a).mono (fun v n h => ⟨.num x, left, rfl, h.1 ▸ LB.refl BB, k2, h.2⟩) fun _ _ h => h.elim
  | text x => obtain ⟨t, k1, k2, e, a⟩ := h; cases e; exact (l_wh_t w bk st t k1 k2 _ a).mono (fun v n h => ⟨.txt x, left, rfl, h.1 ▸ LB.refl BB, k2, h.2⟩) fun _ _ h => h.elim
  | name p =>
    have HK := l_key_name w bk lf σ left st BB hl Ms p t h
    obtain ⟨t, k1, k2, e, a⟩ := h
    cases e
    exact l_wh_n w bk lf σ left st (.name p) trivial hl t 0 k1 k2 _ a 4 HK
  | fn => obtain ⟨t, k1, k2, l, nl, e, a, -⟩ := h; cases e; exact l_fn w bk lf σ left st BB hl t l k1 k2 a
  | neg x => exact hτ.elim
  | item b κ => exact hτ.elim
include hσ
theorem l_key_s (b : Ar) (κ : T) (d : Nat) (hn : κ.numb) (t : Nat) (h : Tr Ms st (.item b κ) (.ref t)) (HW : ∀ u, Tr Ms st κ (.ref u) → Spec w 778 [.ref bk, .ref u] d st (PB w bk lf σ st (ev σ κ left)) (PLx Rs.bad w bk lf σ st (ev σ κ left))) :
    Spec w 771 [.ref bk, .ref t] (d + 4) st (PK w bk lf σ st (pl σ (.item b κ) left)) (PLx RPl.bad w bk lf σ st (pl σ (.item b κ) left)) := by
  obtain ⟨t, k1, k2, l, nl, u, e, a, c, -, f⟩ := h
  cases e
  obtain ⟨u, rfl⟩ := f.ref
  exact l_key_i w bk lf σ left st hσ hl b κ hn t l nl u k1 k2 a c d (HW u f)
theorem l_worth (τ : T) (hτ : τ.Ok) (t : Nat) (h : Tr Ms st τ (.ref t)) : Spec w 778 [.ref bk, .ref t] 12 st (PB w bk lf σ st (ev σ τ left)) (PLx Rs.bad w bk lf σ st (ev σ τ left)) := by
  have up : τ.simple → Spec w 778 [.ref bk, .ref t] 12 st (PB w bk lf σ st (ev σ τ left)) (PLx Rs.bad w bk lf σ st (ev σ τ left)) := fun hs => (l_worth_s w bk lf σ left st BB hl Ms τ hs t h).mono (fun _ _ h => h) fun _ _ h => h
  cases τ with
  | neg x =>
    obtain ⟨t, k1, t2, k2, k3, e, a, c⟩ := h
    cases e
    exact (l_wh_g w bk st t k1 k2 k3 t2 x a c).mono (fun v n h => by cases h with | mk k => exact ⟨.num (-x), left, rfl, LB.refl BB, k, by rw [Int.zero_sub]⟩) fun _ _ h => h.elim
  | item b κ =>
    have HK := l_key_s w bk lf σ left st BB hσ hl Ms b κ 6 hτ.2 t h fun u hu => l_worth_s w bk lf σ left st BB hl Ms κ hτ.1 u hu
    obtain ⟨t, k1, k2, l, nl, u, e, a, -⟩ := h
    cases e
    exact l_wh_a w bk lf σ left st (.item b κ) ⟨by cases κ <;> first | exact hτ.1 | exact hτ.1.elim, hτ.2⟩ hl t l k1 k2 _ a 10 HK
  | whole x => exact up hτ
  | text x => exact up hτ
  | name x => exact up hτ
  | fn => exact up hτ
theorem l_key (τ : T) (hτ : τ.Tgt) (t : Nat) (h : Tr Ms st τ (.ref t)) : Spec w 771 [.ref bk, .ref t] 16 st (PK w bk lf σ st (pl σ τ left)) (PLx RPl.bad w bk lf σ st (pl σ τ left)) := by
  cases τ with
  | name p => exact (l_key_name w bk lf σ left st BB hl Ms p t h).mono (fun _ _ h => h) fun _ _ h => h
  | item b κ => exact l_key_s w bk lf σ left st BB hσ hl Ms b κ 12 hτ.2 t h fun u hu => l_worth w bk lf σ left st BB hσ hl Ms κ hτ.1 u hu
  | _ => exact hτ.elim
end
end
theorem l_swap_ne (w : World) (bk lf : Nat) (σ : Sg) (left : List Int) (st : Led) (BB : Bo w bk lf σ left st) (hσ : σ.Ok) (hl : LOk left) (Ms : List Nat) (hMs : bk ∈ Ms ∧ lf ∈ Ms) (τ υ : T) (hτ : τ.Tgt) (hυ : υ.Tgt) (t : Nat) (k0 : Tok) (t1 t2 : Nat) (ht : (t, tupOf [.str "SWAP" k0, .ref t1, .ref t2] 0) ∈ st) (h1 : Tr Ms st τ (.ref t1)) (h2 : Tr Ms st υ (.ref t2)) (ba bb : Bool) (hba : τ.isT = ba) (hbb : υ.isT = bb) (hnb : ba ≠ bb) : Spec w 785 [.ref bk, .ref t] 20 st (PAL w bk lf st (swapS σ τ υ left)) (PLx RO.bad w bk lf σ st (swapS σ τ υ left)) := by
  k_with_none
  k_with "call ref" => (refine Made.use (made1 _ _) (by k_asm) (by k_asm) (by k_asm) (by k_asm) (by k_asm) (by first | assumption | rfl) ?Aa ?Ba ?_; (case Aa | Ba => walk_at "h9"); intro e di t k1 k2 h' tk' F' N' hne; refine ⟨_, _, _, rfl, Frag.In.keeps (by k_asm) (Fr.keep F'), (N' _ (.head _)).1, ?_⟩)
  k_with "subscriptTail" => (first | (refine' item_tgt (τ := τ) (t := t1) ?Ab ?Bb ?Cb ?_ ?Db; (case Ab => k_asm); (case Bb => exact h1); (case Cb => exact hτ); (case Db => with_unfolding_all rfl); k_whole; intro kw) | (refine' item_tgt (τ := υ) (t := t2) ?Ab ?Bb ?Cb ?_ ?Db; (case Ab => k_asm); (case Bb => exact h2); (case Cb => exact hυ); (case Db => with_unfolding_all rfl); k_whole; intro kw))
  k_with "subscriptTail Name Constant ref int" => (first | (refine' item_tgt (τ := τ) (t := t1) ?Ac ?Bc ?Cc ?_ ?Dc; (case Ac => k_asm); (case Bc => exact h1); (case Cc => exact hτ); (case Dc => with_unfolding_all rfl); k_whole; intro kw) | (refine' item_tgt (τ := υ) (t := t2) ?Ac ?Bc ?Cc ?_ ?Dc; (case Ac => k_asm); (case Bc => exact h2); (case Cc => exact hυ); (case Dc => with_unfolding_all rfl); k_whole; intro kw))
  k_with "compareOp In str ref" => (first | ((with_reducible show wpAny _ _ (compareOp CmpOp.In _ (Value.str (Mine.T.word τ) _)) _ _ _); refine in_dollar hτ hba ?_) | ((with_reducible show wpAny _ _ (compareOp CmpOp.In _ (Value.str (Mine.T.word υ) _)) _ _ _); refine in_dollar hυ hbb ?_))
  k_with "compareOp In str str" => (first | ((with_reducible show wpAny _ _ (compareOp CmpOp.In _ (Value.str (Mine.T.word τ) _)) _ _ _); refine in_dollar hτ hba ?_) | ((with_reducible show wpAny _ _ (compareOp CmpOp.In _ (Value.str (Mine.T.word υ) _)) _ _ _); refine in_dollar hυ hbb ?_))
  k_with "compareOp NotEq bool bool" => (refine ne_bool_b (bne_iff_ne.mpr hnb) ?_)
  refine Spec.intro ?_
  intro p loose mean mg mb dp un gd cn cs a ccd cl outer A₀ base h₀ L m hs9 gs9 ds9 ks9 os9 Q E B F X N T hk hd hu hret hout
  revert X; k_fill; intro X
  refine wpAny_call ?_
  k_dflt ktr_enter
  k_steps
  all_goals first
    | exact hout _ _ _ _ _ _ _ _ _ _ _ ⟨left, if_pos (by rw [hba, hbb]; exact hnb), LB.refl BB⟩ (by assumption) (by assumption) (by assumption)
theorem l_swap_eq (w : World) (bk lf : Nat) (σ : Sg) (left : List Int) (st : Led) (BB : Bo w bk lf σ left st) (hσ : σ.Ok) (hl : LOk left) (Ms : List Nat) (hMs : bk ∈ Ms ∧ lf ∈ Ms) (τ υ : T) (hτ : τ.Tgt) (hυ : υ.Tgt) (t : Nat) (k0 : Tok) (t1 t2 : Nat) (ht : (t, tupOf [.str "SWAP" k0, .ref t1, .ref t2] 0) ∈ st) (h1 : Tr Ms st τ (.ref t1)) (h2 : Tr Ms st υ (.ref t2)) (ba : Bool) (hba : τ.isT = ba) (hbb : υ.isT = ba) : Spec w 785 [.ref bk, .ref t] 20 st (PAL w bk lf st (swapS σ τ υ left)) (PLx RO.bad w bk lf σ st (swapS σ τ υ left)) := by
  k_with_none
  k_with "call ref" => (refine' Spec.useK (l_key w bk lf σ left st BB hσ hl Ms τ hτ t1 h1) ?Aa ?Ba ?Ca ?Da ?Ea ?Fa ?Ga ?Ha ?_ ?_; (case Aa | Ba | Ca | Da | Ea | Fa => walk_at "u9"); (case Ga | Ha => walk_at "h9"); rotate_left; (rintro c told k1 k2 k3 e di n h' tk' G ⟨l', hb, LL⟩ F' R' U'); rotate_left; intro K9 hK9; rintro v1 n1 h' tk' ⟨p1, l1, hp1, LL1, hk1⟩ F' N'; obtain ⟨ok1, is1, hl1⟩ := pl_ok hl hp1; have h2' := LL1.tr hMs h2; have ht2 := LL1.keep.2 _ ht rfl; any_goals (refine hK9 _ _ _ ?_))
  k_with "call ref" => (refine' Spec.useK (l_key w bk lf σ l1 n1 LL1.bo hσ hl1 Ms υ hυ t2 h2') ?Ab ?Bb ?Cb ?Db ?Eb ?Fb ?Gb ?Hb ?_ ?_; (case Ab | Bb | Cb | Db | Eb | Fb => walk_at "u9"); (case Gb | Hb => walk_at "h9"); rotate_left; (rintro c told k1 k2 k3 e di n h' tk' G ⟨l', hb2, LE2⟩ F' R' U'); rotate_left; intro K9 hK9; rintro v2 n2 h' tk' ⟨p2, l2, hp2, LL2, hk2⟩ F' N'; obtain ⟨ok2, is2, hl2⟩ := pl_ok hl1 hp2; obtain ⟨o, xs, hm, hB, hS⟩ := LL2.bo.book; have hw := hS.two; have nt := hB.nt; have OFF : OwnOff (off n2 bk) [bk] := off_own; have up : ∀ q ∈ n2, q.2.cls = .type "tuple" → q ∈ (bk, o) :: off n2 bk := (fun q hq hc => .tail _ (off_mem.mpr ⟨hq, tup_ne N' hm nt q hq hc⟩)); have hB1 := hB.up up; have SET := (fun (own : Led) (o' : Obj) (xs' : BKs) (σ' : Sg) (h1 : BookO w (own ++ (bk, o') :: off n2 bk) o' xs') (h2 : Says xs' σ' lf) => Bo.set (own := own) N' LL2.bo hm nt hB.dict h1 h2); replace N' := news_off N' hm; have hk1 := (hk1.up LL2.keep.2).up up; have hk2 := hk2.up up; obtain ⟨y1, hy1, hb1⟩ := hS.look p1 ok1; obtain ⟨y2, hy2, hb2⟩ := hS.look p2 ok2; any_goals (refine hK9 _ _ _ ?_))
  k_with "subscriptTail" => (refine' item_B ?Ac ?Bc ?Cc ?Dc ?Ec ?Fc ?Gc ?_ ?Hc; (case Ac => ktr_units); (case Bc => k_asm); (case Cc => walk_at "m9"); (case Dc => exact hB1); (case Ec | Fc | Gc => assumption); (case Hc => with_unfolding_all rfl); k_whole; intro tk)
  k_with "subscriptTail Name Constant ref int" => (refine' item_B ?Ad ?Bd ?Cd ?Dd ?Ed ?Fd ?Gd ?_ ?Hd; (case Ad => ktr_units); (case Bd => k_asm); (case Cd => walk_at "m9"); (case Dd => exact hB1); (case Ed | Fd | Gd => assumption); (case Hd => with_unfolding_all rfl); k_whole; intro tk)
  k_with "subscriptTail" => (first | (refine' item_tgt (τ := τ) (t := t1) ?Ae ?Be ?Ce ?_ ?De; (case Ae => k_asm); (case Be => exact h1); (case Ce => exact hτ); (case De => with_unfolding_all rfl); k_whole; intro kw) | (refine' item_tgt (τ := υ) (t := t2) ?Ae ?Be ?Ce ?_ ?De; (case Ae => k_asm); (case Be => exact h2); (case Ce => exact hυ); (case De => with_unfolding_all rfl); k_whole; intro kw))
  k_with "subscriptTail Name Constant ref int" => (first | (refine' item_tgt (τ := τ) (t := t1) ?Af ?Bf ?Cf ?_ ?Df; (case Af => k_asm); (case Bf => exact h1); (case Cf => exact hτ); (case Df => with_unfolding_all rfl); k_whole; intro kw) | (refine' item_tgt (τ := υ) (t := t2) ?Af ?Bf ?Cf ?_ ?Df; (case Af => k_asm); (case Bf => exact h2); (case Cf => exact hυ); (case Df => with_unfolding_all rfl); k_whole; intro kw))
  k_with "compareOp In str ref" => (first | ((with_reducible show wpAny _ _ (compareOp CmpOp.In _ (Value.str (Mine.T.word τ) _)) _ _ _); refine in_dollar hτ hba ?_) | ((with_reducible show wpAny _ _ (compareOp CmpOp.In _ (Value.str (Mine.T.word υ) _)) _ _ _); refine in_dollar hυ hbb ?_))
  k_with "compareOp In str str" => (first | ((with_reducible show wpAny _ _ (compareOp CmpOp.In _ (Value.str (Mine.T.word τ) _)) _ _ _); refine in_dollar hτ hba ?_) | ((with_reducible show wpAny _ _ (compareOp CmpOp.In _ (Value.str (Mine.T.word υ) _)) _ _ _); refine in_dollar hυ hbb ?_))
  k_with "compareOp NotEq bool bool" => (refine ne_bool_b (by cases ba <;> rfl) ?_)
  k_with "setItem ref" => (refine' setItem_B (k := p1.key) ?Ah ?Bh ?Ch ?Dh ?Eh ?Fh ?Gh ?Hh ?_; (case Ah => ktr_units); (case Bh | Ch => k_asm); (case Dh => k_updF); (case Eh => exact hB1.up (fun _ h _ => .tail _ h)); (case Fh => exact hk1.up (fun _ h _ => .tail _ h)); (case Gh => exact fun _ => hw); (case Hh => (have := hS.len; omega)); k_whole; intro o9 h9 tk9 B9 F9 N9)
  k_with "setItem ref" => (refine' setItem_B (k := p2.key) ?Ai ?Bi ?Ci ?Di ?Ei ?Fi ?Gi ?Hi ?_; (case Ai => ktr_units); (case Bi | Ci => k_asm); (case Di => k_updF); (case Ei => exact B9); (case Fi => exact hk2.up (fun q hq hc => by (rcases List.mem_cons.mp hq with rfl | hq); (exact absurd hc nt); (exact .tail _ (.tail _ hq)))); (case Gi => exact fun _ => (hS.put ok1 hb2).two); (case Hi => (have := (hS.put ok1 hb2 (kv := v1)).len; omega)); k_whole; intro o8 h9 tk9 B8 F9 N9)
  refine Spec.intro ?_
  intro p loose mean mg mb dp un gd cn cs a ccd cl outer A₀ base h₀ L m hs9 gs9 ds9 ks9 os9 Q E B F X N T hk hd hu hret hout
  revert X; k_fill; intro X
  refine wpAny_call ?_
  k_dflt ktr_enter
  k_steps
  all_goals first
    | exact hret _ _ _ _ ⟨_, l2, by unfold swapS; rw [if_neg (by rw [hba, hbb]; exact fun h => h rfl), hp1]; show (match pl σ υ l1 with | .bad c l => RO.bad c l | .ok r l => .ok ((σ.put (σ.at r) p1).put (σ.at p1) r) l) = _; rw [hp2], (LL1.trans LL2).trans (SET [_] _ _ _ B8 ((hS.put ok1 hb2).put ok2 hb1))⟩ (by k_asm) (by k_asm)
    | exact hout _ _ _ _ _ _ _ _ _ _ _ ⟨l', by unfold swapS; rw [if_neg (by rw [hba, hbb]; exact fun h => h rfl), hb], LL⟩ (by assumption) (by assumption) (by assumption)
    | exact hout _ _ _ _ _ _ _ _ _ _ _ ⟨l', by unfold swapS; rw [if_neg (by rw [hba, hbb]; exact fun h => h rfl), hp1]; show (match pl σ υ l1 with | .bad c l => RO.bad c l | .ok r l => .ok ((σ.put (σ.at r) p1).put (σ.at p1) r) l) = _; rw [hb2], LL1.trans LE2⟩ (by assumption) (by assumption) (by assumption)
inductive MidL (w : World) (bk lf : Nat) (σ : Sg) (μ : Option T) (l2 : List Int) (n2 : Led) (h₀ : Heap) (L : Addr) (m : Str → Option Value) (g : Array GenState) (d : Drawn) (o : OsState) : Value → Shared → Prop
  | mk {mm : Int} {k : Tok} {l9 : List Int} {n9 : Led} {h' : Heap} {tk' : Nat} (e : evO σ μ l2 = .ok (.num mm) l9) (x : LOk l9) (x1 : -9 ≤ mm) (x2 : mm ≤ 9) (LL : LB w bk lf σ l9 n2 n9) (F : Fr h₀ L h' m) (N : News h₀ L h' n9) : MidL w bk lf σ μ l2 n2 h₀ L m g d o (.int mm k) ⟨h', g, d, tk', o⟩
theorem cutL (w : World) (bk lf : Nat) (σ : Sg) (μ : Option T) (l2 : List Int) (n2 : Led) {h₀ h : Heap} {L : Addr} {m : Str → Option Value} {g : Array GenState} {d : Drawn} {k : Nat} {o : OsState} {M : Model} {A : Around} {t : Sem Value} {Q E : Value → Shared → Prop} (F : Fr h₀ L h m)
    (H1 : wpAny M A t (MidL w bk lf σ μ l2 n2 h₀ L m g d o) E ⟨h, g, d, k, o⟩)
    (H2 : ∀ mm k l9 n9 h' tk', evO σ μ l2 = .ok (.num mm) l9 → LOk l9 → -9 ≤ mm → mm ≤ 9 → LB w bk lf σ l9 n2 n9 → Fr h₀ L h' m → News h₀ L h' n9 → Q (.int mm k) ⟨h', g, d, tk', o⟩) : wpAny M A t Q E ⟨h, g, d, k, o⟩ :=
  wpAny_mono H1 (fun v s z => by cases z with | mk a b c1 c2 d e f => exact H2 _ _ _ _ _ _ a b c1 c2 d e f) fun _ _ e => e
theorem l_mid (w : World) (bk lf : Nat) (σ : Sg) (left : List Int) (st : Led) (BB : Bo w bk lf σ left st) (hσ : σ.Ok) (hl : LOk left) (Ms : List Nat) (hMs : bk ∈ Ms ∧ lf ∈ Ms) (τ φ υ : T) (hτ : τ.Tgt) (hτt : τ.isT = true) (hφ : φ.Ok) (hφn : φ.numb) (μ : Option T) (o5 : ∀ κ, μ = some κ → κ.Ok ∧ κ.numb) (hυ : υ.Ok) (hυs : υ.short) (t : Nat) (k0 : Tok) (tg tf tt : Nat) (vm : Value) (ht : (t, tupOf [.str "MIDSET" k0, .ref tg, .ref tf, vm, .ref tt] 0) ∈ st) (h1 : Tr Ms st τ (.ref tg)) (h2 : Tr Ms st φ (.ref tf)) (h3 : Tr Ms st υ (.ref tt)) (h4 : ManyIs Ms st μ vm) : Spec w 785 [.ref bk, .ref t] 20 st (PAL w bk lf st (midS σ τ φ μ υ left)) (PLx RO.bad w bk lf σ st (midS σ τ φ μ υ left)) := by
  k_with_none
  k_with "exec For Tuple Call" => (k_here; (rename Fr _ _ _ _ => lF'); (with_unfolding_all refine' For_turns lF' ?_; k_whole))
  k_with "call ref" => (refine Made.use (made1 _ _) (by k_asm) (by k_asm) (by k_asm) (by k_asm) (by k_asm) (by first | assumption | rfl) ?Aa ?Ba ?_; (case Aa | Ba => walk_at "h9"); intro e di t k1 k2 h' tk' F' N' hne; refine ⟨_, _, _, rfl, Frag.In.keeps (by k_asm) (Fr.keep F'), (N' _ (.head _)).1, ?_⟩)
  k_with "call ref" => (refine' Spec.useK (l_key w bk lf σ left st BB hσ hl Ms τ hτ tg h1) ?Ab ?Bb ?Cb ?Db ?Eb ?Fb ?Gb ?Hb ?_ ?_; (case Ab | Bb | Cb | Db | Eb | Fb => walk_at "u9"); (case Gb | Hb => walk_at "h9"); rotate_left; (rintro c told k1 k2 k3 e di n h' tk' G ⟨lb1, hb1, LE1⟩ F' R' U'); rotate_left; intro K9 hK9; rintro v1 n1 h' tk' ⟨p1, l1, hp1, LL1, hk1⟩ F' N'; obtain ⟨ok1, is1, hl1⟩ := pl_ok hl hp1; have h2' := LL1.tr hMs h2; have h3' := LL1.tr hMs h3; have ht1 := LL1.keep.2 _ ht rfl; any_goals (refine hK9 _ _ _ ?_))
  k_with "call ref" => (refine' Spec.useK (l_worth w bk lf σ l9 _ LL9.bo hσ hl9 Ms υ hυ tt h39) ?Ac ?Bc ?Cc ?Dc ?Ec ?Fc ?Gc ?Hc ?_ ?_; (case Ac | Bc | Cc | Dc | Ec | Fc => walk_at "u9"); (case Gc | Hc => walk_at "h9"); rotate_left; (rintro c told k1 k2 k3 e di n h' tk' G ⟨lb3, hb3, LE3⟩ F' R' U'); rotate_left; intro K9 hK9; rintro v n3 h' tk' ⟨y, l3, hy, LL3, hv⟩ F' N'; obtain ⟨o, xs, hm, hB, hS⟩ := LL3.bo.book; have hw := hS.two; have nt := hB.nt; have OFF : OwnOff (off n3 bk) [bk] := off_own; have up : ∀ q ∈ n3, q.2.cls = .type "tuple" → q ∈ (bk, o) :: off n3 bk := (fun q hq hc => .tail _ (off_mem.mpr ⟨hq, tup_ne N' hm nt q hq hc⟩)); have hB1 := hB.up up; have SET := (fun (own : Led) (o' : Obj) (xs' : BKs) (σ' : Sg) (h1 : BookO w (own ++ (bk, o') :: off n3 bk) o' xs') (h2 : Says xs' σ' lf) => Bo.set (own := own) N' LL3.bo hm nt hB.dict h1 h2); replace N' := news_off N' hm; have hk3 := (hk9.up LL3.keep.2).up up; obtain ⟨v0, hv0, hbv0⟩ := hS.look p1 ok1; obtain ⟨old, hold, hlen⟩ := at_txt hσ ok1 (is1.trans hτt); rw [hold] at hbv0; obtain ⟨ko, rfl⟩ := hbv0; (rcases y with x | x); (obtain ⟨ky, rfl⟩ := hv); rotate_left; (obtain ⟨ky, rfl⟩ := hv; have hxl := ev_txt hσ hυs hy); any_goals (refine hK9 _ _ _ ?_))
  k_with "eval IfExp" => ((with_reducible show wpAny _ _ (eval (Expr.IfExp _ (Expr.Constant _ _ _) _ _) _) _ _ _); refine' cutL w bk lf σ μ l2 n2 ?Fm ?_ ?_; (case Fm => k_asm); rotate_left; (intro mm km l9 n9 h' tk' hm9 hl9 hmm1 hmm2 LL9 F' N'; have hk9 := hk2.up LL9.keep.2; have h39 := LL9.tr hMs h3''; have ht9 := LL9.keep.2 _ ht2 rfl); rotate_left; (rcases μ with _ | κ); (have e9 : vm = .none := h4; rw [e9] at ht2); rotate_left; (obtain ⟨tm, e9⟩ := Tr.ref h4; rw [e9] at ht2; have h4'' : Tr Ms n2 κ (.ref tm) := LL2.tr hMs (LL1.tr hMs (e9 ▸ h4))))
  k_with "call ref" => (refine' Spec.useK (l_worth w bk lf σ l2 _ LL2.bo.cons hσ hl2 Ms κ (o5 _ rfl).1 tm (h4''.up fun q hq => .tail _ hq)) ?Ad ?Bd ?Cd ?Dd ?Ed ?Fd ?Gd ?Hd ?_ ?_; (case Ad | Bd | Cd | Dd | Ed | Fd => walk_at "u9"); (case Gd | Hd => walk_at "h9"); rotate_left; (rintro c told k1 k2 k3 e di n h' tk' G ⟨lb9, hb9, LE9⟩ F' R' U'); rotate_left; intro K9 hK9; rintro v n9 h' tk' ⟨y, l9, hm9, LL9, hv⟩ F' N'; obtain ⟨mm, rfl, hmm1, hmm2⟩ := ev_num hσ hl2 (o5 _ rfl).2 hm9; obtain ⟨km, rfl⟩ := hv; have hl9 : LOk l9 := (by have z := ev_left (σ := σ) (τ := κ) hl2; rw [hm9] at z; exact z); any_goals (refine hK9 _ _ _ ?_))
  k_with "call ref" => (refine' Spec.useK (l_worth w bk lf σ l1 n1 LL1.bo hσ hl1 Ms φ hφ tf h2') ?Ae ?Be ?Ce ?De ?Ee ?Fe ?Ge ?He ?_ ?_; (case Ae | Be | Ce | De | Ee | Fe => walk_at "u9"); (case Ge | He => walk_at "h9"); rotate_left; (rintro c told k1 k2 k3 e di n h' tk' G ⟨lb2, hb2, LE2⟩ F' R' U'); rotate_left; intro K9 hK9; rintro v n2 h' tk' ⟨y, l2, hb, LL2, hv⟩ F' N'; obtain ⟨b, rfl, hb1, hb2⟩ := ev_num hσ hl1 hφn hb; obtain ⟨kb, rfl⟩ := hv; have hk2 := hk1.up LL2.keep.2; have h3'' := LL2.tr hMs h3'; have ht2 := LL2.keep.2 _ ht1 rfl; have hl2 : LOk l2 := (by have z := ev_left (σ := σ) (τ := φ) hl1; rw [hb] at z; exact z); any_goals (refine hK9 _ _ _ ?_))
  k_with "subscriptTail" => (refine' item_B ?Af ?Bf ?Cf ?Df ?Ef ?Ff ?Gf ?_ ?Hf; (case Af => ktr_units); (case Bf => k_asm); (case Cf => walk_at "m9"); (case Df => exact hB1); (case Ef => exact hk3); (case Ff | Gf => assumption); (case Hf => with_unfolding_all rfl); k_whole; intro tk)
  k_with "subscriptTail Name Constant ref int" => (refine' item_B ?Ag ?Bg ?Cg ?Dg ?Eg ?Fg ?Gg ?_ ?Hg; (case Ag => ktr_units); (case Bg => k_asm); (case Cg => walk_at "m9"); (case Dg => exact hB1); (case Eg => exact hk3); (case Fg | Gg => assumption); (case Hg => with_unfolding_all rfl); k_whole; intro tk)
  k_with "exec For Tuple Call" => ((rename Fr _ _ _ _ => lF'); refine' For_pair3F lF' ?Ah ?Bh ?Ch ?Dh ?_ ?Eh; (case Ah | Bh => rfl); (case Ch | Dh => rfl); (case Eh => intro _; rfl); k_whole)
  k_with "call type:enumerate" => (refine' call_enum_str ?Ai ?Bi ?Ci ?_; (case Ai => rfl); (case Bi | Ci => k_asm); k_whole; intro h' e' F' N' src; refine' enum_J (src _ rfl) (accL old x b mm) ?Di ?Ei ?Fi; (case Di => exact ⟨_, rfl⟩); (case' Ei => intro i c t v kf sp a1 s1 s₁ own hs hc hv F' N'; obtain ⟨h', tk, rfl⟩ := hs; obtain ⟨u, rfl⟩ := hv; have hal := accL_len old x b mm i hlen); (case' Fi => intro h' tk kf sp a1 s1 F' N'; rw [accL_all] at F'))
  k_with "setItem ref" => (refine' setItem_B (k := p1.key) ?Aj ?Bj ?Cj ?Dj ?Ej ?Fj ?Gj ?Hj ?_; (case Aj => ktr_units); (case Bj | Cj => k_asm); (case Dj => k_updF); (case Ej => exact hB1.up (fun _ h _ => .tail _ h)); (case Fj => exact hk3.up (fun _ h _ => .tail _ h)); (case Gj => exact fun _ => hw); (case Hj => (have := hS.len; omega)); k_whole; intro o9 h9 tk9 B9 F9 N9)
  k_with "binaryOp Add str str" => (refine' KXadd.add (K := 4) (L := 1) ?Ak ?Bk ?Ck ?_; (case Ak => exact hal); (case Bk => exact Nat.le_refl 1); (case Ck => decide); k_whole; intro _ tkc hc9)
  k_with "MidEnd" => (refine' ⟨rfl, _, _, _, _, rfl, ?Al, ?Bl, ?Cl, ?Dl⟩; (case Al | Bl => k_asm); (case Cl => first | ((show some (Value.str (accL old x b mm i ++ Txt.item x ((i : Int) + 1 - b)) _) = some (Value.str _ _)); rw [accL_item (m := mm) hc (by omega) (by omega) (by omega)]) | ((show some (Value.str (accL old x b mm i ++ ⟨#[c]⟩) _) = some (Value.str _ _)); rw [accL_sign hc (by omega)])); (case Dl => (intro y h1 h2 h3 h4; repeat (first | exact rfl | refine (if_neg (by assumption)).trans ?_))))
  refine Spec.intro ?_
  intro p loose mean mg mb dp un gd cn cs a ccd cl outer A₀ base h₀ L m hs9 gs9 ds9 ks9 os9 Q E B F X N T hk hd hu hret hout
  revert X; k_fill; intro X
  refine wpAny_call ?_
  k_dflt ktr_enter
  k_steps
  all_goals first
    | exact MidL.mk hm9 hl9 hmm1 hmm2 LL9.drop (by k_asm) (by k_asm)
    | exact MidL.mk rfl hl2 (by decide) (by decide) (LB.refl LL2.bo).cons (by k_asm) (by k_asm)
    | exact hret _ _ _ _ ⟨_, l3, midr_ok hp1 hb hm9 hy hold (by omega), (((LL1.trans LL2).trans LL9).trans LL3).trans (SET [_] _ _ _ B9 (hS.put (y := .txt (midL old x b mm)) ok1 ⟨_, rfl⟩))⟩ (by k_asm) (by k_asm)
    | exact hout _ _ _ _ _ _ _ _ _ _ _ ⟨l3, mid_fc hp1 hb hm9 hy hold (by omega), (((LL1.trans LL2).trans LL9).trans LL3).trans (SET [_] _ _ _ (hB1.up fun _ h _ => .tail _ h) hS)⟩ (by assumption) (by assumption) (by assumption)
    | exact hout _ _ _ _ _ _ _ _ _ _ _ ⟨l3, mid_bn hp1 hb hm9 hy, (((LL1.trans LL2).trans LL9).trans LL3).trans (SET [] _ _ _ hB1 hS)⟩ (by assumption) (by assumption) (by assumption)
    | exact hout _ _ _ _ _ _ _ _ _ _ _ ⟨lb3, mid_b3 hp1 hb hm9 hb3, ((LL1.trans LL2).trans LL9).trans LE3⟩ (by assumption) (by assumption) (by assumption)
    | exact hout _ _ _ _ _ _ _ _ _ _ _ ⟨lb2, mid_b2 hp1 hb2, LL1.trans LE2⟩ (by assumption) (by assumption) (by assumption)
    | exact hout _ _ _ _ _ _ _ _ _ _ _ ⟨lb1, mid_b1 hb1, LE1⟩ (by assumption) (by assumption) (by assumption)
    | exact hout _ _ _ _ _ _ _ _ _ _ _ ⟨lb9, mid_b9 hp1 hb hb9, (LL1.trans LL2).trans LE9.drop⟩ (by assumption) (by assumption) (by assumption)
theorem num_of {v : V} (h : okV false v) : ∃ x, v = .num x := by cases v with | num x => exact ⟨x, rfl⟩ | txt s => exact h.elim
theorem txt_of {v : V} (h : okV true v) : ∃ x, v = .txt x := by cases v with | num x => exact h.elim | txt s => exact ⟨s, rfl⟩
theorem Same.pair {st : Led} {t t' : Nat} {x : Int} {k1 k2 k3 k4 : Tok} (a : (t, tupOf [.int x k1, .int 0 k2] 0) ∈ st) (b : (t', tupOf [.int x k3, .int 0 k4] 0) ∈ st) : Same st (.ref t) (.ref t') := .inr (.inr ⟨_, _, _, _, _, _, _, rfl, rfl, a, b⟩)
theorem Same.str {st : Led} {x : Str} {k k' : Tok} : Same st (.str x k) (.str x k') := .inr (.inl ⟨_, _, _, rfl, rfl⟩)
theorem Sames.cons {st : Led} {v u : Value} {vs us : List Value} (a : Same st v u) (b : Sames st vs us) : Sames st (v :: vs) (u :: us) := ⟨a, b⟩
theorem Sames.up {st n : Led} (h : ∀ p ∈ st, p.2.cls = .type "tuple" → p ∈ n) : ∀ {vs us : List Value}, Sames st vs us → Sames n vs us
  | [], [], _ => trivial
  | _ :: _, _ :: _, x => ⟨x.1.up h, x.2.up h⟩
  | [], _ :: _, x => x.elim
  | _ :: _, [], x => x.elim
section
variable {w : World} {A : Around} {E : Value → Shared → Prop} {s : Shared} {h₀ h : Heap} {L : Addr} {news st : Led} {d : Addr} {o : Obj} {xs : BKs} {value slice : Expr}
theorem item_Bs {x : Str} {tk : Tok} {y : Value} {Q : Value → Shared → Prop} (hs : subscripted slice false (.ref d) (.str x tk) = operate [.ref d, .str x tk] (getItem (.ref d) (.str x tk))) (hu : A.in1.units < cLine) (N : News h₀ L s.heap news) (hm : (d, o) ∈ news) (B : BookO w st o xs)
    (up : ∀ p ∈ st, p.2.cls = .type "tuple" → p ∈ news) (hp : ∃ x ∈ xs, x.1.isP = true) (hy : valAt xs (.s x) = some y)
    (h : ∀ tk, Q y { s with toks := tk }) : wpAny (MG w) A (subscriptTail value slice (.ref d) (.str x tk)) Q E s := item_B (k := .s x) hu N hm (B.up up) ⟨_, rfl⟩ hp hy h hs
theorem item_Bp {σ : Sg} {lf : Nat} {t : Nat} {b : Ar} {x : Str} {i : Int} {k1 k2 : Tok} {Q : Value → Shared → Prop} (hs : subscripted slice false (.ref d) (.ref t) = operate [.ref d, .ref t] (getItem (.ref d) (.ref t))) (hu : A.in1.units < cLine) (N : News h₀ L s.heap news) (hm : (d, o) ∈ news) (B : BookO w st o xs)
    (up : ∀ p ∈ st, p.2.cls = .type "tuple" → p ∈ news) (S : Says xs σ lf) (ht : (t, tupOf [.str x k1, .int i k2] 0) ∈ news) (hx : b.word = x) (hi : 0 ≤ i ∧ i ≤ 3)
    (h : ∀ y tk, BV y (σ.ar b i.toNat) → Q y { s with toks := tk }) : wpAny (MG w) A (subscriptTail value slice (.ref d) (.ref t)) Q E s := by
  subst hx
  obtain ⟨y, hy, hb⟩ := S.look (.a b i) hi
  exact item_B (k := .p b.word i) hu N hm (B.up up) ⟨_, _, _, rfl, ht⟩ S.two hy (fun tk => h y tk hb) hs
theorem comp_end1 {I C D : Addr} {m : Str → Option Value} {s₁ : Shared} {oI oC oD : Obj} {S : Led → Prop} {rest : Value → Led → Prop} {y : Value} {h' : Heap} {tk : Nat} {x : Addr × Obj} {n : Led}
    (F : Fr h₀ L h' m) (N : News h₀ L h' (x :: (I, oI) :: (C, oC) :: (D, oD) :: n)) (off : LCg.Off3 I C D (x :: n)) (hS : S (x :: n)) (r : rest y (x :: n)) : LCg.CompEnd h₀ L m s₁ I oI C oC D oD S rest y { s₁ with heap := h', toks := tk } :=
  LCg.CompEnd.intro F N _ (fun p hp => by
    rcases List.mem_cons.mp hp with rfl | hp
    · exact .tail _ (.head _)
    rcases List.mem_cons.mp hp with rfl | hp
    · exact .tail _ (.tail _ (.head _))
    rcases List.mem_cons.mp hp with rfl | hp
    · exact .tail _ (.tail _ (.tail _ (.head _)))
    rcases List.mem_cons.mp hp with rfl | hp
    · exact .head _
    · exact .tail _ (.tail _ (.tail _ (.tail _ hp)))) off hS r
theorem comp_end2 {I C D : Addr} {m : Str → Option Value} {s₁ : Shared} {oI oC oD : Obj} {S : Led → Prop} {rest : Value → Led → Prop} {y : Value} {h' : Heap} {tk : Nat} {x z : Addr × Obj} {n : Led}
    (F : Fr h₀ L h' m) (N : News h₀ L h' (x :: z :: (I, oI) :: (C, oC) :: (D, oD) :: n)) (off : LCg.Off3 I C D (x :: z :: n)) (hS : S (x :: z :: n)) (r : rest y (x :: z :: n)) : LCg.CompEnd h₀ L m s₁ I oI C oC D oD S rest y { s₁ with heap := h', toks := tk } :=
  LCg.CompEnd.intro F N _ (fun p hp => by
    rcases List.mem_cons.mp hp with rfl | hp
    · exact .tail _ (.tail _ (.head _))
    rcases List.mem_cons.mp hp with rfl | hp
    · exact .tail _ (.tail _ (.tail _ (.head _)))
    rcases List.mem_cons.mp hp with rfl | hp
    · exact .tail _ (.tail _ (.tail _ (.tail _ (.head _))))
    rcases List.mem_cons.mp hp with rfl | hp
    · exact .head _
    rcases List.mem_cons.mp hp with rfl | hp
    · exact .tail _ (.head _)
    · exact .tail _ (.tail _ (.tail _ (.tail _ (.tail _ hp))))) off hS r
theorem item_Sn {f : Str → Option Value} {x : Str} {tk : Tok} {v : Value} {Q : Value → Shared → Prop} (hs : subscripted slice false (.ref d) (.str x tk) = operate [.ref d, .str x tk] (getItem (.ref d) (.str x tk))) (N : News h₀ L s.heap news) (hm : (d, o) ∈ news) (S : SaysO w f o) (e : f x = some v)
    (h : Q v { s with toks := s.toks + 1 }) : wpAny (MG w) A (subscriptTail value slice (.ref d) (.str x tk)) Q E s := item_S N hm S e h hs
end
theorem bv_n {y : Value} {v : V} {x : Int} (e : v = .num x) (h : BV y v) : ∃ k, y = .int x k := by subst e; exact h
theorem bv_t {y : Value} {v : V} {x : Str} (e : v = .txt x) (h : BV y v) : ∃ k, y = .str x k := by subst e; exact h
section
open LCg
variable {prog : Program} {w : World} {A : Around} {s : Shared} {h₀ : Heap} {L : Addr} {m : Str → Option Value} {env : Env}
theorem comp_int {elt : Expr} {x : Str} {scope : Scope} {cl : List (Str × Addr)} {S : Led → Prop} {P : Nat → Value → Prop} {Fin : List Value → Led → Prop} {k i : Nat} {ys : List Value} {news : Led} {f : Int} (hP : ∀ v, P i v → ∃ t, v = .int f t)
    (H : ∀ t I oI C oC D m₂ h tk (E' : Value → Shared → Prop), NsObj oC m₂ → m₂ x = some (.int f t) → Fr h₀ L h m → News h₀ L h ((I, oI) :: (C, oC) :: (D, lst ys) :: news) → Off3 I C D news → ((@Ne Nat I C) ∧ (@Ne Nat I D) ∧ (@Ne Nat C D)) →
      wpAny (model prog w) A (eval elt (compEnvC scope cl C env)) (CompEnd h₀ L m { s with heap := h, toks := tk } I oI C oC D (lst ys) S (fun y news' => CompRest prog w A h₀ L m env elt x scope cl s S P Fin k (i + 1) (ys ++ [y]) news')) E' { s with heap := h, toks := tk }) :
    CompRest prog w A h₀ L m env elt x scope cl s S P Fin (k + 1) i ys news := by
  intro v I oI C oC D m₂ h tk E' hv hC hx F N off ne
  obtain ⟨t, rfl⟩ := hP v hv
  exact H t I oI C oC D m₂ h tk E' hC hx F N off ne
end
section
variable {w : World} {A : Ad} {σ : Sg} {left : List Int} {q : Nat} {st : Led} {bk lf : Nat} {G : Prop}
theorem st_names (M : Mu w A σ left q st) (BB : Bo w bk lf σ left st) (hσ : σ.Ok)
    (k : ∀ (oN : Obj) (xI xJ : Int) (xS : Str) (tI : Nat) (kI1 kI2 : Tok) (tJ : Nat) (kJ1 kJ2 kS : Tok) (oB : Obj) (xs : BKs) (kbI kbJ kbS : Tok) (vsF : List Value) (nF : Nat) (vsL : List Value) (nL : Nat),
      (A.aN, oN) ∈ st → (tI, decO xI kI1 kI2) ∈ st → (tJ, decO xJ kJ1 kJ2) ∈ st → DictO w [("I", .ref tI), ("J", .ref tJ), ("S$", .str xS kS)] oN → (bk, oB) ∈ st → BookO w st oB xs → Says xs σ lf →
      valAt xs (Pl.n Nm.I).key = some (.int xI kbI) → valAt xs (Pl.n Nm.J).key = some (.int xJ kbJ) → valAt xs (Pl.n Nm.S).key = some (.str xS kbS) →
      (A.fnr, listOf vsF.toArray nF) ∈ st → (lf, listOf vsL.toArray nL) ∈ st → Sames st vsF vsL → G) : G := by
  obtain ⟨oN, vI, vJ, vS, hN, dN, rI, rJ, rS⟩ := M.names
  obtain ⟨xI, eI⟩ := num_of (hσ.1 .I)
  obtain ⟨xJ, eJ⟩ := num_of (hσ.1 .J)
  obtain ⟨xS, eS⟩ := txt_of (hσ.1 .S)
  rw [eI] at rI; rw [eJ] at rJ; rw [eS] at rS
  obtain ⟨tI, kI1, kI2, rfl, mI⟩ := rI
  obtain ⟨tJ, kJ1, kJ2, rfl, mJ⟩ := rJ
  obtain ⟨kS, rfl⟩ := rS
  obtain ⟨oB, xs, hB, bO, hS⟩ := BB.book
  obtain ⟨wI, lI, bI⟩ := hS.look (.n .I) trivial
  obtain ⟨wJ, lJ, bJ⟩ := hS.look (.n .J) trivial
  obtain ⟨wS, lS, bS⟩ := hS.look (.n .S) trivial
  rw [show σ.at (.n .I) = _ from eI] at bI; rw [show σ.at (.n .J) = _ from eJ] at bJ; rw [show σ.at (.n .S) = _ from eS] at bS
  obtain ⟨kbI, rfl⟩ := bI
  obtain ⟨kbJ, rfl⟩ := bJ
  obtain ⟨kbS, rfl⟩ := bS
  obtain ⟨vsF, nF, hF, iF⟩ := M.fnr
  obtain ⟨vsL, nL, hL, iL⟩ := BB.left
  exact k _ _ _ _ _ _ _ _ _ _ _ _ _ _ _ _ _ _ _ _ hN mI mJ dN hB bO hS lI lJ lS hF hL (Sames.ints iF iL)
theorem st_A (M : Mu w A σ left q st) (hσ : σ.Ok) (k : ∀ (nA : Nat) (x0A : Int) (t0A : Nat) (ka0A kb0A : Tok) (x1A : Int) (t1A : Nat) (ka1A kb1A : Tok) (x2A : Int) (t2A : Nat) (ka2A kb2A : Tok) (x3A : Int) (t3A : Nat) (ka3A kb3A : Tok), σ.ar Ar.A 0 = V.num x0A → (t0A, decO x0A ka0A kb0A) ∈ st → σ.ar Ar.A 1 = V.num x1A → (t1A, decO x1A ka1A kb1A) ∈ st → σ.ar Ar.A 2 = V.num x2A → (t2A, decO x2A ka2A kb2A) ∈ st → σ.ar Ar.A 3 = V.num x3A → (t3A, decO x3A ka3A kb3A) ∈ st → (A.it Ar.A, listOf #[.ref t0A, .ref t1A, .ref t2A, .ref t3A] nA) ∈ st → G) : G := by
  obtain ⟨v0A, v1A, v2A, v3A, nA, hA, r0A, r1A, r2A, r3A⟩ := M.items .A
  obtain ⟨x0A, e0A⟩ := num_of (hσ.2 .A 0 (by decide))
  rw [e0A] at r0A
  obtain ⟨t0A, ka0A, kb0A, rfl, m0A⟩ := r0A
  obtain ⟨x1A, e1A⟩ := num_of (hσ.2 .A 1 (by decide))
  rw [e1A] at r1A
  obtain ⟨t1A, ka1A, kb1A, rfl, m1A⟩ := r1A
  obtain ⟨x2A, e2A⟩ := num_of (hσ.2 .A 2 (by decide))
  rw [e2A] at r2A
  obtain ⟨t2A, ka2A, kb2A, rfl, m2A⟩ := r2A
  obtain ⟨x3A, e3A⟩ := num_of (hσ.2 .A 3 (by decide))
  rw [e3A] at r3A
  obtain ⟨t3A, ka3A, kb3A, rfl, m3A⟩ := r3A
  exact k _ _ _ _ _ _ _ _ _ _ _ _ _ _ _ _ _ e0A m0A e1A m1A e2A m2A e3A m3A hA
theorem st_W (M : Mu w A σ left q st) (hσ : σ.Ok) (k : ∀ (nW : Nat) (x0W : Str) (ka0W : Tok) (x1W : Str) (ka1W : Tok) (x2W : Str) (ka2W : Tok) (x3W : Str) (ka3W : Tok), σ.ar Ar.W 0 = V.txt x0W → σ.ar Ar.W 1 = V.txt x1W → σ.ar Ar.W 2 = V.txt x2W → σ.ar Ar.W 3 = V.txt x3W → (A.it Ar.W, listOf #[.str x0W ka0W, .str x1W ka1W, .str x2W ka2W, .str x3W ka3W] nW) ∈ st → G) : G := by
  obtain ⟨v0W, v1W, v2W, v3W, nW, hW, r0W, r1W, r2W, r3W⟩ := M.items .W
  obtain ⟨x0W, e0W⟩ := txt_of (hσ.2 .W 0 (by decide))
  rw [e0W] at r0W
  obtain ⟨ka0W, rfl⟩ := r0W
  obtain ⟨x1W, e1W⟩ := txt_of (hσ.2 .W 1 (by decide))
  rw [e1W] at r1W
  obtain ⟨ka1W, rfl⟩ := r1W
  obtain ⟨x2W, e2W⟩ := txt_of (hσ.2 .W 2 (by decide))
  rw [e2W] at r2W
  obtain ⟨ka2W, rfl⟩ := r2W
  obtain ⟨x3W, e3W⟩ := txt_of (hσ.2 .W 3 (by decide))
  rw [e3W] at r3W
  obtain ⟨ka3W, rfl⟩ := r3W
  exact k _ _ _ _ _ _ _ _ _ e0W e1W e2W e3W hW
end
theorem l_stands (w : World) (A : Ad) (σ : Sg) (left : List Int) (q : Nat) (O : A.Ok w) (st : Led) (W : Wd A st) (M : Mu w A σ left q st) (bk lf : Nat) (BB : Bo w bk lf σ left st) (hσ : σ.Ok) : Spec w 797 [.ref A.wld, .ref A.run, .ref bk] 6 st (fun v n => v = .bool true ∧ ∀ p ∈ st, p ∈ n) (fun _ _ => False) := by
  k_with_none
  k_with "eval ListComp" => refine LCg.ListComp_U (F₀ := by k_asm) (by with_unfolding_all rfl) (by decide) (by rfl) (by decide) (by rfl) ?_
  k_with "CompSrc" => refine LCg.CompSrc.range (by rfl) (by k_asm) (by k_asm) (by assumption) (by first | decide | rfl) (by first | rfl | decide) (by first | size_fits | exact Nat.le_of_ble_eq_true rfl) ?_; intro g'; lcg_lit
  k_with "CompRest" => (with_unfolding_all refine comp_int (fun _ h => h) ?_); intro t9' I' oI' C' oC' D' m' h' tk' E' hC' hx' F' N' off' ne'; have off9 := off'; (try simp only [LCg.Off3, and_true] at off')
  k_with "CompEnd" => first | (refine' comp_end1 ?Aa ?Ba ?Ca ?Da ?_; (case Aa => k_asm); (case Ba => assumption); (case Ca => exact ⟨⟨by k_ne, by k_ne, by k_ne⟩, off9⟩); (case Da => exact trivial)) | (refine' comp_end2 ?Aa ?Ba ?Ca ?Da ?_; (case Aa => k_asm); (case Ba => assumption); (case Ca => exact ⟨⟨by k_ne, by k_ne, by k_ne⟩, ⟨⟨by k_ne, by k_ne, by k_ne⟩, off9⟩⟩); (case Da => exact trivial))
  k_with "compareOp NotEq ref ref" => (refine' ne_same ?Ac ?Bc ?Cc ?Dc ?Ec ?_; (case Ac => ktr_units); (case Bc => k_asm); (case Cc | Dc => walk_at "m9"); (case Ec => first | exact sF.up (fun _ h _ => by first | exact h | exact memE h ⟨1, rfl⟩ | exact memE h ⟨2, rfl⟩ | exact memE h ⟨3, rfl⟩ | exact memE h ⟨4, rfl⟩ | exact memE h ⟨5, rfl⟩ | exact memE h ⟨6, rfl⟩ | exact memE h ⟨7, rfl⟩ | exact memE h ⟨8, rfl⟩ | exact memE h ⟨9, rfl⟩ | exact memE h ⟨10, rfl⟩ | exact memE h ⟨11, rfl⟩ | exact memE h ⟨12, rfl⟩ | exact memE h ⟨13, rfl⟩ | exact memE h ⟨14, rfl⟩ | exact memE h ⟨15, rfl⟩ | exact memE h ⟨16, rfl⟩ | exact memE h ⟨17, rfl⟩ | exact memE h ⟨18, rfl⟩ | exact memE h ⟨19, rfl⟩ | exact memE h ⟨20, rfl⟩ | exact memE h ⟨21, rfl⟩ | exact memE h ⟨22, rfl⟩ | exact memE h ⟨23, rfl⟩ | exact memE h ⟨24, rfl⟩ | exact memE h ⟨25, rfl⟩ | exact memE h ⟨26, rfl⟩ | exact memE h ⟨27, rfl⟩ | exact memE h ⟨28, rfl⟩ | exact memE h ⟨29, rfl⟩ | exact memE h ⟨30, rfl⟩) | (repeat (first | exact trivial | refine Sames.cons (by first | exact Same.str | exact Same.pair (by walk_at "m9") (by walk_at "m9")) ?_))); k_whole)
  k_with "compareOp Eq ref ref" => (refine' eq_same ?Ae ?Be ?Ce ?De ?Ee ?_; (case Ae => ktr_units); (case Be => k_asm); (case Ce | De => walk_at "m9"); (case Ee => first | exact sF.up (fun _ h _ => by first | exact h | exact memE h ⟨1, rfl⟩ | exact memE h ⟨2, rfl⟩ | exact memE h ⟨3, rfl⟩ | exact memE h ⟨4, rfl⟩ | exact memE h ⟨5, rfl⟩ | exact memE h ⟨6, rfl⟩ | exact memE h ⟨7, rfl⟩ | exact memE h ⟨8, rfl⟩ | exact memE h ⟨9, rfl⟩ | exact memE h ⟨10, rfl⟩ | exact memE h ⟨11, rfl⟩ | exact memE h ⟨12, rfl⟩ | exact memE h ⟨13, rfl⟩ | exact memE h ⟨14, rfl⟩ | exact memE h ⟨15, rfl⟩ | exact memE h ⟨16, rfl⟩ | exact memE h ⟨17, rfl⟩ | exact memE h ⟨18, rfl⟩ | exact memE h ⟨19, rfl⟩ | exact memE h ⟨20, rfl⟩ | exact memE h ⟨21, rfl⟩ | exact memE h ⟨22, rfl⟩ | exact memE h ⟨23, rfl⟩ | exact memE h ⟨24, rfl⟩ | exact memE h ⟨25, rfl⟩ | exact memE h ⟨26, rfl⟩ | exact memE h ⟨27, rfl⟩ | exact memE h ⟨28, rfl⟩ | exact memE h ⟨29, rfl⟩ | exact memE h ⟨30, rfl⟩) | (repeat (first | exact trivial | refine Sames.cons (by first | exact Same.str | exact Same.pair (by walk_at "m9") (by walk_at "m9")) ?_))); k_whole)
  k_with "subscriptTail Name Constant ref str" => (first | (refine' item_Sn (f := valueAt [(("I" : Str), .ref tI), ("J", .ref tJ), ("S$", .str xS kS)]) ?Ag ?Bg ?Cg ?Dg ?Eg ?_; (case Ag => with_unfolding_all rfl); (case Bg => k_asm); (case Cg => walk_at "m9"); (case Dg => exact dictO_says dN); (case Eg => exact rfl); k_whole) | (refine' item_Bs ?Ag ?Bg ?Cg ?Dg ?Eg ?Fg ?Gg ?Hg ?_; (case Ag => with_unfolding_all rfl); (case Bg => ktr_units); (case Cg => k_asm); (case Dg => walk_at "m9"); (case Eg => exact bO); (case Fg => exact (fun _ h _ => by first | exact h | exact memE h ⟨1, rfl⟩ | exact memE h ⟨2, rfl⟩ | exact memE h ⟨3, rfl⟩ | exact memE h ⟨4, rfl⟩ | exact memE h ⟨5, rfl⟩ | exact memE h ⟨6, rfl⟩ | exact memE h ⟨7, rfl⟩ | exact memE h ⟨8, rfl⟩ | exact memE h ⟨9, rfl⟩ | exact memE h ⟨10, rfl⟩ | exact memE h ⟨11, rfl⟩ | exact memE h ⟨12, rfl⟩ | exact memE h ⟨13, rfl⟩ | exact memE h ⟨14, rfl⟩ | exact memE h ⟨15, rfl⟩ | exact memE h ⟨16, rfl⟩ | exact memE h ⟨17, rfl⟩ | exact memE h ⟨18, rfl⟩ | exact memE h ⟨19, rfl⟩ | exact memE h ⟨20, rfl⟩ | exact memE h ⟨21, rfl⟩ | exact memE h ⟨22, rfl⟩ | exact memE h ⟨23, rfl⟩ | exact memE h ⟨24, rfl⟩ | exact memE h ⟨25, rfl⟩ | exact memE h ⟨26, rfl⟩ | exact memE h ⟨27, rfl⟩ | exact memE h ⟨28, rfl⟩ | exact memE h ⟨29, rfl⟩ | exact memE h ⟨30, rfl⟩)); (case Gg => exact hS.two); (case Hg => first | exact lI | exact lJ | exact lS | exact hS.left); k_whole; intro tk))
  k_with "subscriptTail Name Tuple ref ref" => (first | (refine' item_Bp (b := .A) ?Ai ?Bi ?Ci ?Di ?Ei ?Fi ?Gi ?Hi ?Ii ?Ji ?_; (case Ai => with_unfolding_all rfl); (case Bi => ktr_units); (case Ci => k_asm); (case Di => walk_at "m9"); (case Ei => exact bO); (case Fi => exact (fun _ h _ => by first | exact h | exact memE h ⟨1, rfl⟩ | exact memE h ⟨2, rfl⟩ | exact memE h ⟨3, rfl⟩ | exact memE h ⟨4, rfl⟩ | exact memE h ⟨5, rfl⟩ | exact memE h ⟨6, rfl⟩ | exact memE h ⟨7, rfl⟩ | exact memE h ⟨8, rfl⟩ | exact memE h ⟨9, rfl⟩ | exact memE h ⟨10, rfl⟩ | exact memE h ⟨11, rfl⟩ | exact memE h ⟨12, rfl⟩ | exact memE h ⟨13, rfl⟩ | exact memE h ⟨14, rfl⟩ | exact memE h ⟨15, rfl⟩ | exact memE h ⟨16, rfl⟩ | exact memE h ⟨17, rfl⟩ | exact memE h ⟨18, rfl⟩ | exact memE h ⟨19, rfl⟩ | exact memE h ⟨20, rfl⟩ | exact memE h ⟨21, rfl⟩ | exact memE h ⟨22, rfl⟩ | exact memE h ⟨23, rfl⟩ | exact memE h ⟨24, rfl⟩ | exact memE h ⟨25, rfl⟩ | exact memE h ⟨26, rfl⟩ | exact memE h ⟨27, rfl⟩ | exact memE h ⟨28, rfl⟩ | exact memE h ⟨29, rfl⟩ | exact memE h ⟨30, rfl⟩)); (case Gi => exact hS); (case Hi => walk_at "m9"); (case Ii => exact rfl); (case Ji => decide); k_whole; intro y9 tk9 hy9; first | (replace hy9 := bv_n e0A hy9; obtain ⟨kc9, rfl⟩ := hy9) | (replace hy9 := bv_n e1A hy9; obtain ⟨kc9, rfl⟩ := hy9) | (replace hy9 := bv_n e2A hy9; obtain ⟨kc9, rfl⟩ := hy9) | (replace hy9 := bv_n e3A hy9; obtain ⟨kc9, rfl⟩ := hy9)) | (refine' item_Bp (b := .W) ?Ai ?Bi ?Ci ?Di ?Ei ?Fi ?Gi ?Hi ?Ii ?Ji ?_; (case Ai => with_unfolding_all rfl); (case Bi => ktr_units); (case Ci => k_asm); (case Di => walk_at "m9"); (case Ei => exact bO); (case Fi => exact (fun _ h _ => by first | exact h | exact memE h ⟨1, rfl⟩ | exact memE h ⟨2, rfl⟩ | exact memE h ⟨3, rfl⟩ | exact memE h ⟨4, rfl⟩ | exact memE h ⟨5, rfl⟩ | exact memE h ⟨6, rfl⟩ | exact memE h ⟨7, rfl⟩ | exact memE h ⟨8, rfl⟩ | exact memE h ⟨9, rfl⟩ | exact memE h ⟨10, rfl⟩ | exact memE h ⟨11, rfl⟩ | exact memE h ⟨12, rfl⟩ | exact memE h ⟨13, rfl⟩ | exact memE h ⟨14, rfl⟩ | exact memE h ⟨15, rfl⟩ | exact memE h ⟨16, rfl⟩ | exact memE h ⟨17, rfl⟩ | exact memE h ⟨18, rfl⟩ | exact memE h ⟨19, rfl⟩ | exact memE h ⟨20, rfl⟩ | exact memE h ⟨21, rfl⟩ | exact memE h ⟨22, rfl⟩ | exact memE h ⟨23, rfl⟩ | exact memE h ⟨24, rfl⟩ | exact memE h ⟨25, rfl⟩ | exact memE h ⟨26, rfl⟩ | exact memE h ⟨27, rfl⟩ | exact memE h ⟨28, rfl⟩ | exact memE h ⟨29, rfl⟩ | exact memE h ⟨30, rfl⟩)); (case Gi => exact hS); (case Hi => walk_at "m9"); (case Ii => exact rfl); (case Ji => decide); k_whole; intro y9 tk9 hy9; first | (replace hy9 := bv_t e0W hy9; obtain ⟨kc9, rfl⟩ := hy9) | (replace hy9 := bv_t e1W hy9; obtain ⟨kc9, rfl⟩ := hy9) | (replace hy9 := bv_t e2W hy9; obtain ⟨kc9, rfl⟩ := hy9) | (replace hy9 := bv_t e3W hy9; obtain ⟨kc9, rfl⟩ := hy9)))
  refine Spec.intro ?_
  intro p loose mean mg mb dp un gd cn cs a ccd cl outer A₀ base h₀ L m hs9 gs9 ds9 ks9 os9 Q E B F X N T hk hd hu hret hout
  refine st_names M BB hσ ?_; intro oN xI xJ xS tI kI1 kI2 tJ kJ1 kJ2 kS oB xs kbI kbJ kbS vsF nF vsL nL hN mI mJ dN hB bO hS lI lJ lS hF hL sF
  refine st_A M hσ ?_; intro nA x0A t0A ka0A kb0A x1A t1A ka1A kb1A x2A t2A ka2A kb2A x3A t3A ka3A kb3A e0A m0A e1A m1A e2A m2A e3A m3A hA
  refine st_W M hσ ?_; intro nW x0W ka0W x1W ka1W x2W ka2W x3W ka3W e0W e1W e2W e3W hW
  have m1 := W.run; have m2 := W.dR; have m3 := W.wld; have m4 := W.dW; have m5 := W.aArr; have m6 := W.ans
  have m7 := W.g .A; have m8 := W.dg .A; have m9 := W.g .W; have m10 := W.dg .W
  have e1 := O.wNames; have e2 := O.wArrays; have e3 := O.rAnswers; have e4 := O.ansF; have e5 := O.ansK; have e6 := O.arrK
  have e7 : getL "A" A.esArr = some (some (.ref (A.g .A))) := O.arr .A
  have e8 : getL "W$" A.esArr = some (some (.ref (A.g .W))) := O.arr .W
  have e9 := O.gItems .A; have e10 := O.gItems .W
  revert X; k_fill; intro X
  refine wpAny_call ?_
  k_dflt ((refine' code_defC ?k1z9 ?k2z9 ?k3z9 ?k4z9 ?k5z9 ?kAz9 ?kFz9 ?kKz9 ?k6z9 ?k7z9 ?k8z9 ?k9z9 ?kBz9 ?kDz9 ?_ ?c2z9 ?c3z9 ?c4z9; (case kAz9 => exact rfl); (case kFz9 => exact rfl); (case kKz9 => assumption); (case k1z9 => k_asm); (case k2z9 => k_asm); (case k3z9 => k_asm); (case k4z9 => k_asm); (case k5z9 => k_asm); (case k6z9 => k_is); (case k7z9 => k_is); (case k8z9 => (show dp < _; exact hd_lt hd)); (case k9z9 => first | exact BindsTo.of_eq rfl | exact binds_K (by k_in) rfl (by k_is) rfl rfl rfl); (case kBz9 => exact rfl); (case kDz9 => decide +kernel); (case c2z9 => exact rfl); (case c3z9 => exact rfl); (case c4z9 => exact rfl); k_whole; intro g' L' h' tk' cells' FG' F' N' Y' B' X' T' l1; (first | k_lt l1 | replace l1 := allLt_of l1); k_cells Y'; (try simp only [List.cons_append, List.nil_append] at N'); (try dsimp only); (try k_fold)))
  k_steps
  all_goals first
    | (refine' hret _ _ _ _ ⟨rfl, ?z1z9⟩ ?zFz9 ?zNz9; (case zFz9 => k_asm); (case zNz9 => k_asm); (case z1z9 => (intro p hp; first | exact memE hp ⟨1, rfl⟩ | exact memE hp ⟨2, rfl⟩ | exact memE hp ⟨3, rfl⟩ | exact memE hp ⟨4, rfl⟩ | exact memE hp ⟨5, rfl⟩ | exact memE hp ⟨6, rfl⟩ | exact memE hp ⟨7, rfl⟩ | exact memE hp ⟨8, rfl⟩ | exact memE hp ⟨9, rfl⟩ | exact memE hp ⟨10, rfl⟩ | exact memE hp ⟨11, rfl⟩ | exact memE hp ⟨12, rfl⟩ | exact memE hp ⟨13, rfl⟩ | exact memE hp ⟨14, rfl⟩ | exact memE hp ⟨15, rfl⟩ | exact memE hp ⟨16, rfl⟩ | exact memE hp ⟨17, rfl⟩ | exact memE hp ⟨18, rfl⟩ | exact memE hp ⟨19, rfl⟩ | exact memE hp ⟨20, rfl⟩ | exact memE hp ⟨21, rfl⟩ | exact memE hp ⟨22, rfl⟩ | exact memE hp ⟨23, rfl⟩ | exact memE hp ⟨24, rfl⟩ | exact memE hp ⟨25, rfl⟩ | exact memE hp ⟨26, rfl⟩ | exact memE hp ⟨27, rfl⟩ | exact memE hp ⟨28, rfl⟩ | exact memE hp ⟨29, rfl⟩ | exact memE hp ⟨30, rfl⟩ | exact memE hp ⟨31, rfl⟩ | exact memE hp ⟨32, rfl⟩ | exact memE hp ⟨33, rfl⟩ | exact memE hp ⟨34, rfl⟩ | exact memE hp ⟨35, rfl⟩ | exact memE hp ⟨36, rfl⟩ | exact memE hp ⟨37, rfl⟩ | exact memE hp ⟨38, rfl⟩ | exact memE hp ⟨39, rfl⟩ | exact memE hp ⟨40, rfl⟩ | exact memE hp ⟨41, rfl⟩ | exact memE hp ⟨42, rfl⟩ | exact memE hp ⟨43, rfl⟩ | exact memE hp ⟨44, rfl⟩ | exact memE hp ⟨45, rfl⟩ | exact memE hp ⟨46, rfl⟩ | exact memE hp ⟨47, rfl⟩ | exact memE hp ⟨48, rfl⟩ | exact memE hp ⟨49, rfl⟩ | exact memE hp ⟨50, rfl⟩ | exact memE hp ⟨51, rfl⟩ | exact memE hp ⟨52, rfl⟩ | exact memE hp ⟨53, rfl⟩ | exact memE hp ⟨54, rfl⟩ | exact memE hp ⟨55, rfl⟩ | exact memE hp ⟨56, rfl⟩ | exact memE hp ⟨57, rfl⟩ | exact memE hp ⟨58, rfl⟩ | exact memE hp ⟨59, rfl⟩ | exact memE hp ⟨60, rfl⟩)))
theorem t_next (w : World) (tp l2 : Nat) (c : Int) (st : Led) (TT : Tp tp l2 c st) (hc : 0 ≤ c ∧ c ≤ 900) (m1 : Int) (k : Tok) (hm1 : 0 < m1 ∧ m1 ≤ 9) : Spec w 743 [.ref tp, .int m1 k] 2 st (GotX m1 tp l2 (c + 1) st) (fun _ _ => False) := by
  k_with_none
  k_with "call builtin:len" => (refine' KM.len_K (n := vs.length) ?Aa ?Ba ?Ca ?Da ?_; (case Aa => k_asm); (case Ba => walk_at "m9"); (case Ca => simp); (case Da => omega); k_whole)
  k_with "subscriptTail" => (refine' item_ints ?Ab ?Bb ?Cb ?Db ?Eb ?Fb ?_ ?Gb; (case Ab => k_asm); (case Bb => exact .tail _ hl2'); (case Cb => exact hI); (case Db | Eb => omega); (case Fb => exact hlen); (case Gb => with_unfolding_all rfl); k_whole; intro x9 k9)
  k_with "subscriptTail Name Constant ref int" => (refine' item_ints ?Ac ?Bc ?Cc ?Dc ?Ec ?Fc ?_ ?Gc; (case Ac => k_asm); (case Bc => exact .tail _ hl2'); (case Cc => exact hI); (case Dc | Ec => omega); (case Fc => exact hlen); (case Gc => with_unfolding_all rfl); k_whole; intro x9 k9)
  refine Spec.intro ?_
  intro p loose mean mg mb dp un gd cn cs a ccd cl outer A₀ base h₀ L m hs9 gs9 ds9 ks9 os9 Q E B F X N T hk hd hu hret hout
  obtain ⟨kc, nt, hm⟩ := TT.tape
  obtain ⟨vs, xs, n2, hl2, hI, hlen⟩ := TT.list
  have hl2' : (l2, listOf vs.toArray n2) ∈ off st tp := off_mem.mpr ⟨hl2, TT.ne⟩
  have NX := fun (c' : Int) (k' : Tok) (n' : Nat) => TT.next (c' := c') N hm k' n'
  have OFF : OwnOff (off st tp) [tp] := off_own
  replace N := news_off N hm
  revert X; k_fill; intro X
  refine wpAny_call ?_
  k_dflt ktr_enter
  k_steps
  all_goals first
    | exact hret _ _ _ _ ⟨_, _, (mod_lt hm1.1).1, (mod_lt hm1.1).2, NX _ _ _ (by omega)⟩ (by k_asm) (by k_asm)
theorem t_sub (w : World) (tp l2 : Nat) (c : Int) (st : Led) (TT : Tp tp l2 c st) (hc : 0 ≤ c ∧ c ≤ 800) (Ms : List Nat) (HM : Has Ms st) : Spec w 750 [.ref tp] 6 st (GotT (TrN Ms) tp l2 (c + 2) st) (fun _ _ => False) := by
  k_with_none
  k_with "call ref" => (refine' Spec.useK (t_next w tp l2 (c + 1) _ ?Aa ?Ba 5 _ ?Ca) ?Da ?Ea ?Fa ?Ga ?Ha ?Ia ?Ja ?Ka ?_ ?_; (case Da | Ea | Fa | Ga | Ha | Ia => walk_at "u9"); (case Aa => exact tt1.cons.cons.cons); (case Ba | Ca => walk_at "q9"); (case Ja | Ka => walk_at "h9"); rotate_left; exact OutE.none; intro K9 hK9; rintro v n2 h' tk' ⟨x2, kx2, hx20, hx21, LL2⟩ F' N'; any_goals (refine hK9 _ _ _ ?_))
  k_with "call ref" => (refine' Spec.useK (t_next w tp l2 c _ ?Ab ?Bb 6 _ ?Cb) ?Db ?Eb ?Fb ?Gb ?Hb ?Ib ?Jb ?Kb ?_ ?_; (case Db | Eb | Fb | Gb | Hb | Ib => walk_at "u9"); (case Ab => assumption); (case Bb | Cb => walk_at "q9"); (case Jb | Kb => walk_at "h9"); rotate_left; exact OutE.none; intro K9 hK9; rintro v n1 h' tk' ⟨x, kx, hx0, hx1, LL⟩ F' N'; have HH := LL.has HM; have tt1 := LL.tap; any_goals (refine hK9 _ _ _ ?_))
  k_with "subscriptTail" => (refine' item_five (Ms := Ms) ?Ac ?Bc ?Cc ?Dc ?Ec ?Fc ?Gc ?Hc ?_ ?Ic; (case Ac => k_asm); (case Bc => walk_at "m9"); (case Cc => omega); (case Ic => with_unfolding_all rfl); (case Dc => exact ⟨.name .J, ⟨_, _, _, rfl, by walk_at "m9"⟩, trivial, rfl⟩); (case Ec => exact ⟨.fn, ⟨_, _, _, _, _, rfl, by walk_at "m9", by walk_at "m9", HH.lt (by first | assumption | exact allLt_of (by assumption) | exact (And.right (by assumption)) | exact (And.right (And.right (by assumption))) | exact (And.right (And.right (And.right (by assumption)))) | exact (And.right (And.right (And.right (And.right (by assumption))))) | exact (And.right (And.right (And.right (And.right (And.right (by assumption)))))) | exact (And.right (And.right (And.right (And.right (And.right (And.right (by assumption))))))) | exact (And.right (And.right (And.right (And.right (And.right (And.right (And.right (by assumption)))))))) | exact (And.right (And.right (And.right (And.right (And.right (And.right (And.right (And.right (by assumption))))))))) | exact (And.right (And.right (And.right (And.right (And.right (And.right (And.right (And.right (And.right (by assumption)))))))))) | exact (And.right (And.right (And.right (And.right (And.right (And.right (And.right (And.right (And.right (And.right (by assumption))))))))))) | exact (And.right (And.right (And.right (And.right (And.right (And.right (And.right (And.right (And.right (And.right (And.right (by assumption)))))))))))) | exact (And.right (And.right (And.right (And.right (And.right (And.right (And.right (And.right (And.right (And.right (And.right (And.right (by assumption))))))))))))) | exact (And.right (And.right (And.right (And.right (And.right (And.right (And.right (And.right (And.right (And.right (And.right (And.right (And.right (by assumption)))))))))))))) | exact (And.right (And.right (And.right (And.right (And.right (And.right (And.right (And.right (And.right (And.right (And.right (And.right (And.right (And.right (by assumption))))))))))))))))⟩, trivial, trivial⟩); (case Fc => exact ⟨.name .I, ⟨_, _, _, rfl, by walk_at "m9"⟩, trivial, rfl⟩); (case Gc => exact ⟨.item .A (.name .I), ⟨_, _, _, _, _, _, rfl, by walk_at "m9", by walk_at "m9", HH.lt (by first | assumption | exact allLt_of (by assumption) | exact (And.right (by assumption)) | exact (And.right (And.right (by assumption))) | exact (And.right (And.right (And.right (by assumption)))) | exact (And.right (And.right (And.right (And.right (by assumption))))) | exact (And.right (And.right (And.right (And.right (And.right (by assumption)))))) | exact (And.right (And.right (And.right (And.right (And.right (And.right (by assumption))))))) | exact (And.right (And.right (And.right (And.right (And.right (And.right (And.right (by assumption)))))))) | exact (And.right (And.right (And.right (And.right (And.right (And.right (And.right (And.right (by assumption))))))))) | exact (And.right (And.right (And.right (And.right (And.right (And.right (And.right (And.right (And.right (by assumption)))))))))) | exact (And.right (And.right (And.right (And.right (And.right (And.right (And.right (And.right (And.right (And.right (by assumption))))))))))) | exact (And.right (And.right (And.right (And.right (And.right (And.right (And.right (And.right (And.right (And.right (And.right (by assumption)))))))))))) | exact (And.right (And.right (And.right (And.right (And.right (And.right (And.right (And.right (And.right (And.right (And.right (And.right (by assumption))))))))))))) | exact (And.right (And.right (And.right (And.right (And.right (And.right (And.right (And.right (And.right (And.right (And.right (And.right (And.right (by assumption)))))))))))))) | exact (And.right (And.right (And.right (And.right (And.right (And.right (And.right (And.right (And.right (And.right (And.right (And.right (And.right (And.right (by assumption)))))))))))))))), ⟨_, _, _, rfl, by walk_at "m9"⟩⟩, ⟨trivial, rfl⟩, rfl⟩); (case Hc => exact ⟨.item .A .fn, ⟨_, _, _, _, _, _, rfl, by walk_at "m9", by walk_at "m9", HH.lt (by first | assumption | exact allLt_of (by assumption) | exact (And.right (by assumption)) | exact (And.right (And.right (by assumption))) | exact (And.right (And.right (And.right (by assumption)))) | exact (And.right (And.right (And.right (And.right (by assumption))))) | exact (And.right (And.right (And.right (And.right (And.right (by assumption)))))) | exact (And.right (And.right (And.right (And.right (And.right (And.right (by assumption))))))) | exact (And.right (And.right (And.right (And.right (And.right (And.right (And.right (by assumption)))))))) | exact (And.right (And.right (And.right (And.right (And.right (And.right (And.right (And.right (by assumption))))))))) | exact (And.right (And.right (And.right (And.right (And.right (And.right (And.right (And.right (And.right (by assumption)))))))))) | exact (And.right (And.right (And.right (And.right (And.right (And.right (And.right (And.right (And.right (And.right (by assumption))))))))))) | exact (And.right (And.right (And.right (And.right (And.right (And.right (And.right (And.right (And.right (And.right (And.right (by assumption)))))))))))) | exact (And.right (And.right (And.right (And.right (And.right (And.right (And.right (And.right (And.right (And.right (And.right (And.right (by assumption))))))))))))) | exact (And.right (And.right (And.right (And.right (And.right (And.right (And.right (And.right (And.right (And.right (And.right (And.right (And.right (by assumption)))))))))))))) | exact (And.right (And.right (And.right (And.right (And.right (And.right (And.right (And.right (And.right (And.right (And.right (And.right (And.right (And.right (by assumption)))))))))))))))), ⟨_, _, _, _, _, rfl, by walk_at "m9", by walk_at "m9", HH.lt (by first | assumption | exact allLt_of (by assumption) | exact (And.right (by assumption)) | exact (And.right (And.right (by assumption))) | exact (And.right (And.right (And.right (by assumption)))) | exact (And.right (And.right (And.right (And.right (by assumption))))) | exact (And.right (And.right (And.right (And.right (And.right (by assumption)))))) | exact (And.right (And.right (And.right (And.right (And.right (And.right (by assumption))))))) | exact (And.right (And.right (And.right (And.right (And.right (And.right (And.right (by assumption)))))))) | exact (And.right (And.right (And.right (And.right (And.right (And.right (And.right (And.right (by assumption))))))))) | exact (And.right (And.right (And.right (And.right (And.right (And.right (And.right (And.right (And.right (by assumption)))))))))) | exact (And.right (And.right (And.right (And.right (And.right (And.right (And.right (And.right (And.right (And.right (by assumption))))))))))) | exact (And.right (And.right (And.right (And.right (And.right (And.right (And.right (And.right (And.right (And.right (And.right (by assumption)))))))))))) | exact (And.right (And.right (And.right (And.right (And.right (And.right (And.right (And.right (And.right (And.right (And.right (And.right (by assumption))))))))))))) | exact (And.right (And.right (And.right (And.right (And.right (And.right (And.right (And.right (And.right (And.right (And.right (And.right (And.right (by assumption)))))))))))))) | exact (And.right (And.right (And.right (And.right (And.right (And.right (And.right (And.right (And.right (And.right (And.right (And.right (And.right (And.right (by assumption))))))))))))))))⟩⟩, ⟨trivial, trivial⟩, rfl⟩); k_whole; intro v9 hv9)
  k_with "subscriptTail Name Constant ref int" => (refine' item_five (Ms := Ms) ?Ad ?Bd ?Cd ?Dd ?Ed ?Fd ?Gd ?Hd ?_ ?Id; (case Ad => k_asm); (case Bd => walk_at "m9"); (case Cd => omega); (case Id => with_unfolding_all rfl); (case Dd => exact ⟨.name .J, ⟨_, _, _, rfl, by walk_at "m9"⟩, trivial, rfl⟩); (case Ed => exact ⟨.fn, ⟨_, _, _, _, _, rfl, by walk_at "m9", by walk_at "m9", HH.lt (by first | assumption | exact allLt_of (by assumption) | exact (And.right (by assumption)) | exact (And.right (And.right (by assumption))) | exact (And.right (And.right (And.right (by assumption)))) | exact (And.right (And.right (And.right (And.right (by assumption))))) | exact (And.right (And.right (And.right (And.right (And.right (by assumption)))))) | exact (And.right (And.right (And.right (And.right (And.right (And.right (by assumption))))))) | exact (And.right (And.right (And.right (And.right (And.right (And.right (And.right (by assumption)))))))) | exact (And.right (And.right (And.right (And.right (And.right (And.right (And.right (And.right (by assumption))))))))) | exact (And.right (And.right (And.right (And.right (And.right (And.right (And.right (And.right (And.right (by assumption)))))))))) | exact (And.right (And.right (And.right (And.right (And.right (And.right (And.right (And.right (And.right (And.right (by assumption))))))))))) | exact (And.right (And.right (And.right (And.right (And.right (And.right (And.right (And.right (And.right (And.right (And.right (by assumption)))))))))))) | exact (And.right (And.right (And.right (And.right (And.right (And.right (And.right (And.right (And.right (And.right (And.right (And.right (by assumption))))))))))))) | exact (And.right (And.right (And.right (And.right (And.right (And.right (And.right (And.right (And.right (And.right (And.right (And.right (And.right (by assumption)))))))))))))) | exact (And.right (And.right (And.right (And.right (And.right (And.right (And.right (And.right (And.right (And.right (And.right (And.right (And.right (And.right (by assumption))))))))))))))))⟩, trivial, trivial⟩); (case Fd => exact ⟨.name .I, ⟨_, _, _, rfl, by walk_at "m9"⟩, trivial, rfl⟩); (case Gd => exact ⟨.item .A (.name .I), ⟨_, _, _, _, _, _, rfl, by walk_at "m9", by walk_at "m9", HH.lt (by first | assumption | exact allLt_of (by assumption) | exact (And.right (by assumption)) | exact (And.right (And.right (by assumption))) | exact (And.right (And.right (And.right (by assumption)))) | exact (And.right (And.right (And.right (And.right (by assumption))))) | exact (And.right (And.right (And.right (And.right (And.right (by assumption)))))) | exact (And.right (And.right (And.right (And.right (And.right (And.right (by assumption))))))) | exact (And.right (And.right (And.right (And.right (And.right (And.right (And.right (by assumption)))))))) | exact (And.right (And.right (And.right (And.right (And.right (And.right (And.right (And.right (by assumption))))))))) | exact (And.right (And.right (And.right (And.right (And.right (And.right (And.right (And.right (And.right (by assumption)))))))))) | exact (And.right (And.right (And.right (And.right (And.right (And.right (And.right (And.right (And.right (And.right (by assumption))))))))))) | exact (And.right (And.right (And.right (And.right (And.right (And.right (And.right (And.right (And.right (And.right (And.right (by assumption)))))))))))) | exact (And.right (And.right (And.right (And.right (And.right (And.right (And.right (And.right (And.right (And.right (And.right (And.right (by assumption))))))))))))) | exact (And.right (And.right (And.right (And.right (And.right (And.right (And.right (And.right (And.right (And.right (And.right (And.right (And.right (by assumption)))))))))))))) | exact (And.right (And.right (And.right (And.right (And.right (And.right (And.right (And.right (And.right (And.right (And.right (And.right (And.right (And.right (by assumption)))))))))))))))), ⟨_, _, _, rfl, by walk_at "m9"⟩⟩, ⟨trivial, rfl⟩, rfl⟩); (case Hd => exact ⟨.item .A .fn, ⟨_, _, _, _, _, _, rfl, by walk_at "m9", by walk_at "m9", HH.lt (by first | assumption | exact allLt_of (by assumption) | exact (And.right (by assumption)) | exact (And.right (And.right (by assumption))) | exact (And.right (And.right (And.right (by assumption)))) | exact (And.right (And.right (And.right (And.right (by assumption))))) | exact (And.right (And.right (And.right (And.right (And.right (by assumption)))))) | exact (And.right (And.right (And.right (And.right (And.right (And.right (by assumption))))))) | exact (And.right (And.right (And.right (And.right (And.right (And.right (And.right (by assumption)))))))) | exact (And.right (And.right (And.right (And.right (And.right (And.right (And.right (And.right (by assumption))))))))) | exact (And.right (And.right (And.right (And.right (And.right (And.right (And.right (And.right (And.right (by assumption)))))))))) | exact (And.right (And.right (And.right (And.right (And.right (And.right (And.right (And.right (And.right (And.right (by assumption))))))))))) | exact (And.right (And.right (And.right (And.right (And.right (And.right (And.right (And.right (And.right (And.right (And.right (by assumption)))))))))))) | exact (And.right (And.right (And.right (And.right (And.right (And.right (And.right (And.right (And.right (And.right (And.right (And.right (by assumption))))))))))))) | exact (And.right (And.right (And.right (And.right (And.right (And.right (And.right (And.right (And.right (And.right (And.right (And.right (And.right (by assumption)))))))))))))) | exact (And.right (And.right (And.right (And.right (And.right (And.right (And.right (And.right (And.right (And.right (And.right (And.right (And.right (And.right (by assumption)))))))))))))))), ⟨_, _, _, _, _, rfl, by walk_at "m9", by walk_at "m9", HH.lt (by first | assumption | exact allLt_of (by assumption) | exact (And.right (by assumption)) | exact (And.right (And.right (by assumption))) | exact (And.right (And.right (And.right (by assumption)))) | exact (And.right (And.right (And.right (And.right (by assumption))))) | exact (And.right (And.right (And.right (And.right (And.right (by assumption)))))) | exact (And.right (And.right (And.right (And.right (And.right (And.right (by assumption))))))) | exact (And.right (And.right (And.right (And.right (And.right (And.right (And.right (by assumption)))))))) | exact (And.right (And.right (And.right (And.right (And.right (And.right (And.right (And.right (by assumption))))))))) | exact (And.right (And.right (And.right (And.right (And.right (And.right (And.right (And.right (And.right (by assumption)))))))))) | exact (And.right (And.right (And.right (And.right (And.right (And.right (And.right (And.right (And.right (And.right (by assumption))))))))))) | exact (And.right (And.right (And.right (And.right (And.right (And.right (And.right (And.right (And.right (And.right (And.right (by assumption)))))))))))) | exact (And.right (And.right (And.right (And.right (And.right (And.right (And.right (And.right (And.right (And.right (And.right (And.right (by assumption))))))))))))) | exact (And.right (And.right (And.right (And.right (And.right (And.right (And.right (And.right (And.right (And.right (And.right (And.right (And.right (by assumption)))))))))))))) | exact (And.right (And.right (And.right (And.right (And.right (And.right (And.right (And.right (And.right (And.right (And.right (And.right (And.right (And.right (by assumption))))))))))))))))⟩⟩, ⟨trivial, trivial⟩, rfl⟩); k_whole; intro v9 hv9)
  refine Spec.intro ?_
  intro p loose mean mg mb dp un gd cn cs a ccd cl outer A₀ base h₀ L m hs9 gs9 ds9 ks9 os9 Q E B F X N T hk hd hu hret hout
  revert X; k_fill; intro X
  refine wpAny_call ?_
  k_dflt ktr_enter
  k_steps
  all_goals first
    | exact hret _ _ _ _ ⟨_, ⟨.whole x2, ⟨_, _, _, rfl, .head _⟩, ⟨by omega, by omega⟩, ⟨by omega, by omega⟩⟩, (by show c + 1 + 1 ≤ c + 2; omega), ((LL.cons.cons.cons).trans LL2).cons⟩ (by k_asm) (by k_asm)
    | (refine' hret _ _ _ _ ⟨_, hv9, ?az9, ?bz9⟩ ?cz9 ?dz9; (case cz9 => k_asm); (case dz9 => k_asm); (case az9 => (show c + 1 ≤ c + 2; omega)); (case bz9 => repeat (first | exact LL | refine TL.cons ?_)))
theorem t_tgt_s (w : World) (tp l2 : Nat) (c : Int) (st : Led) (TT : Tp tp l2 c st) (hc : 0 ≤ c ∧ c ≤ 700) (Ms : List Nat) (HM : Has Ms st) (hMs : tp ∈ Ms) (k : Tok) : Spec w 757 [.ref tp, .str "$" k] 10 st (GotT (TgtN Ms true) tp l2 (c + 3) st) (fun _ _ => False) := by
  k_with_none
  k_with "call ref" => (refine' Spec.useK (t_sub w tp l2 (c + 1) n1 tt1 ?Aa Ms HH) ?Ba ?Ca ?Da ?Ea ?Fa ?Ga ?Ha ?Ia ?_ ?_; (case Ba | Ca | Da | Ea | Fa | Ga => walk_at "u9"); (case Aa => walk_at "q9"); (case Ha | Ia => walk_at "h9"); rotate_left; exact OutE.none; intro K9 hK9; rintro v n2 h' tk' ⟨c2, hv, hc2, LL2⟩ F' N'; have HH2 := LL2.has HH; obtain ⟨κ, hκ1, hκ2, hκ3⟩ := hv; obtain ⟨u, rfl⟩ := hκ1.ref; any_goals (refine hK9 _ _ _ ?_))
  k_with "call ref" => (refine' Spec.useK (t_next w tp l2 c _ ?Ab ?Bb 3 _ ?Cb) ?Db ?Eb ?Fb ?Gb ?Hb ?Ib ?Jb ?Kb ?_ ?_; (case Db | Eb | Fb | Gb | Hb | Ib => walk_at "u9"); (case Ab => assumption); (case Bb | Cb => walk_at "q9"); (case Jb | Kb => walk_at "h9"); rotate_left; exact OutE.none; intro K9 hK9; rintro v n1 h' tk' ⟨x, kx, hx0, hx1, LL⟩ F' N'; have HH := LL.has HM; have tt1 := LL.tap; any_goals (refine hK9 _ _ _ ?_))
  refine Spec.intro ?_
  intro p loose mean mg mb dp un gd cn cs a ccd cl outer A₀ base h₀ L m hs9 gs9 ds9 ks9 os9 Q E B F X N T hk hd hu hret hout
  revert X; k_fill; intro X
  refine wpAny_call ?_
  k_dflt ktr_enter
  k_steps
  all_goals first
    | exact hret _ _ _ _ ⟨c2, ⟨.item .W κ, ⟨_, _, _, _, _, _, rfl, .head _, .tail _ (.head _), HH2.lt (by first | assumption | exact allLt_of (by assumption) | exact (And.right (by assumption)) | exact (And.right (And.right (by assumption))) | exact (And.right (And.right (And.right (by assumption)))) | exact (And.right (And.right (And.right (And.right (by assumption)))))), hκ1.up fun p hp => .tail _ (.tail _ hp)⟩, ⟨hκ2, hκ3⟩, rfl⟩, by omega, (LL.trans LL2).cons.cons⟩ (by k_asm) (by k_asm)
    | exact hret _ _ _ _ ⟨c + 1, ⟨.name .S, ⟨_, _, _, rfl, .head _⟩, trivial, rfl⟩, by omega, LL.cons⟩ (by k_asm) (by k_asm)
theorem t_tgt_n (w : World) (tp l2 : Nat) (c : Int) (st : Led) (TT : Tp tp l2 c st) (hc : 0 ≤ c ∧ c ≤ 700) (Ms : List Nat) (HM : Has Ms st) (hMs : tp ∈ Ms) (k : Tok) : Spec w 757 [.ref tp, .str "" k] 10 st (GotT (TgtN Ms false) tp l2 (c + 3) st) (fun _ _ => False) := by
  k_with_none
  k_with "call ref" => (refine' Spec.useK (t_sub w tp l2 (c + 1) n1 tt1 ?Aa Ms HH) ?Ba ?Ca ?Da ?Ea ?Fa ?Ga ?Ha ?Ia ?_ ?_; (case Ba | Ca | Da | Ea | Fa | Ga => walk_at "u9"); (case Aa => walk_at "q9"); (case Ha | Ia => walk_at "h9"); rotate_left; exact OutE.none; intro K9 hK9; rintro v n2 h' tk' ⟨c2, hv, hc2, LL2⟩ F' N'; have HH2 := LL2.has HH; obtain ⟨κ, hκ1, hκ2, hκ3⟩ := hv; obtain ⟨u, rfl⟩ := hκ1.ref; any_goals (refine hK9 _ _ _ ?_))
  k_with "call ref" => (refine' Spec.useK (t_next w tp l2 (c + 1) _ ?Ab ?Bb 2 _ ?Cb) ?Db ?Eb ?Fb ?Gb ?Hb ?Ib ?Jb ?Kb ?_ ?_; (case Db | Eb | Fb | Gb | Hb | Ib => walk_at "u9"); (case Ab => exact tt1.cons); (case Bb | Cb => walk_at "q9"); (case Jb | Kb => walk_at "h9"); rotate_left; exact OutE.none; intro K9 hK9; rintro v n3 h' tk' ⟨x2, kx2, hx20, hx21, LL3⟩ F' N'; have hL3 := LL3.keep.1 _ (.head _) (notTp HH hMs (by first | assumption | exact allLt_of (by assumption))); any_goals (refine hK9 _ _ _ ?_))
  k_with "call ref" => (refine' Spec.useK (t_next w tp l2 c _ ?Ac ?Bc 3 _ ?Cc) ?Dc ?Ec ?Fc ?Gc ?Hc ?Ic ?Jc ?Kc ?_ ?_; (case Dc | Ec | Fc | Gc | Hc | Ic => walk_at "u9"); (case Ac => assumption); (case Bc | Cc => walk_at "q9"); (case Jc | Kc => walk_at "h9"); rotate_left; exact OutE.none; intro K9 hK9; rintro v n1 h' tk' ⟨x, kx, hx0, hx1, LL⟩ F' N'; have HH := LL.has HM; have tt1 := LL.tap; any_goals (refine hK9 _ _ _ ?_))
  k_with "subscriptTail" => (refine' item_P (k := 2) (P := fun v => ∃ (p : Nm) (k : Tok), p.isT = false ∧ v = .str p.word k) ?Ad ?Bd ?Cd ?Dd ?Ed ?Fd ?Gd ?_ ?Hd; (case Ad => k_asm); (case Bd => exact hL3); (case Cd => exact List.forall_mem_cons.mpr ⟨⟨.I, _, rfl, rfl⟩, List.forall_mem_cons.mpr ⟨⟨.J, _, rfl, rfl⟩, List.forall_mem_nil _⟩⟩); (case Dd => rfl); (case Ed | Fd => omega); (case Gd => decide); (case Hd => with_unfolding_all rfl); k_whole; intro v9 hv9; obtain ⟨p9, k9, hp9, rfl⟩ := hv9)
  k_with "subscriptTail Name Constant ref int" => (refine' item_P (k := 2) (P := fun v => ∃ (p : Nm) (k : Tok), p.isT = false ∧ v = .str p.word k) ?Ae ?Be ?Ce ?De ?Ee ?Fe ?Ge ?_ ?He; (case Ae => k_asm); (case Be => exact hL3); (case Ce => exact List.forall_mem_cons.mpr ⟨⟨.I, _, rfl, rfl⟩, List.forall_mem_cons.mpr ⟨⟨.J, _, rfl, rfl⟩, List.forall_mem_nil _⟩⟩); (case De => rfl); (case Ee | Fe => omega); (case Ge => decide); (case He => with_unfolding_all rfl); k_whole; intro v9 hv9; obtain ⟨p9, k9, hp9, rfl⟩ := hv9)
  refine Spec.intro ?_
  intro p loose mean mg mb dp un gd cn cs a ccd cl outer A₀ base h₀ L m hs9 gs9 ds9 ks9 os9 Q E B F X N T hk hd hu hret hout
  revert X; k_fill; intro X
  refine wpAny_call ?_
  k_dflt ktr_enter
  k_steps
  all_goals first
    | exact hret _ _ _ _ ⟨c2, ⟨.item .A κ, ⟨_, _, _, _, _, _, rfl, .head _, .tail _ (.head _), HH2.lt (by first | assumption | exact allLt_of (by assumption) | exact (And.right (by assumption)) | exact (And.right (And.right (by assumption))) | exact (And.right (And.right (And.right (by assumption)))) | exact (And.right (And.right (And.right (And.right (by assumption)))))), hκ1.up fun p hp => .tail _ (.tail _ hp)⟩, ⟨hκ2, hκ3⟩, rfl⟩, by omega, (LL.trans LL2).cons.cons⟩ (by k_asm) (by k_asm)
    | exact hret _ _ _ _ ⟨c + 1 + 1, ⟨.name p9, ⟨_, _, _, rfl, .head _⟩, trivial, hp9⟩, by omega, (LL.trans LL3.drop).cons⟩ (by k_asm) (by k_asm)
theorem t_tgt (w : World) (tp l2 : Nat) (c : Int) (st : Led) (TT : Tp tp l2 c st) (hc : 0 ≤ c ∧ c ≤ 700) (Ms : List Nat) (HM : Has Ms st) (hMs : tp ∈ Ms) (b : Bool) (k : Tok) : Spec w 757 [.ref tp, .str (sgS b) k] 10 st (GotT (TgtN Ms b) tp l2 (c + 3) st) (fun _ _ => False) := by
  cases b
  · exact t_tgt_n w tp l2 c st TT hc Ms HM hMs k
  · exact t_tgt_s w tp l2 c st TT hc Ms HM hMs k
theorem t_order (w : World) (tp l2 : Nat) (c : Int) (st : Led) (TT : Tp tp l2 c st) (hc : 0 ≤ c ∧ c ≤ 600) (Ms : List Nat) (HM : Has Ms st) (hMs : tp ∈ Ms) : Spec w 764 [.ref tp] 14 st (GotT (OrdN Ms) tp l2 (c + 20) st) (fun _ _ => False) := by
  k_with_none
  k_with "call ref" => (refine' Spec.useK (t_tgt w tp l2 (c + 1) n1 tt1 ?Aa Ms HH hMs true _) ?Ba ?Ca ?Da ?Ea ?Fa ?Ga ?Ha ?Ia ?_ ?_; (case Ba | Ca | Da | Ea | Fa | Ga => walk_at "u9"); (case Aa => walk_at "q9"); (case Ha | Ia => walk_at "h9"); rotate_left; exact OutE.none; intro K9 hK9; rintro v1 n2 h' tk' ⟨c2, hv1, hc2, LL2⟩ F' N'; have HH2 := LL2.has HH; have nn2 := LL2.tap.nn; obtain ⟨τ, hτ1, hτ2, hτ3⟩ := hv1; obtain ⟨t1, rfl⟩ := hτ1.ref; any_goals (refine hK9 _ _ _ ?_))
  k_with "call ref" => (refine' Spec.useK (t_tgt w tp l2 c2 n2 LL2.tap ?Ab Ms HH2 hMs b9 _) ?Bb ?Cb ?Db ?Eb ?Fb ?Gb ?Hb ?Ib ?_ ?_; (case Bb | Cb | Db | Eb | Fb | Gb => walk_at "u9"); (case Ab => walk_at "q9"); (case Hb | Ib => walk_at "h9"); rotate_left; exact OutE.none; intro K9 hK9; rintro v2 n3 h' tk' ⟨c3, hv2, hc3, LL3⟩ F' N'; obtain ⟨υ, hυ1, hυ2, hυ3⟩ := hv2; obtain ⟨t2, rfl⟩ := hυ1.ref; have hτ1' := LL3.tr hMs hτ1; any_goals (refine hK9 _ _ _ ?_))
  k_with "call ref" => (refine' Spec.useK (t_tgt w tp l2 (c + 1) _ ?Ac ?Bc Ms ?Cc hMs a9 k9) ?Dc ?Ec ?Fc ?Gc ?Hc ?Ic ?Jc ?Kc ?_ ?_; (case Dc | Ec | Fc | Gc | Hc | Ic => walk_at "u9"); (case Ac => exact tt1.cons.cons.cons.cons.cons); (case Bc => walk_at "q9"); (case Cc => exact HH.cons.cons.cons.cons.cons); (case Jc | Kc => walk_at "h9"); rotate_left; exact OutE.none; intro K9 hK9; rintro v1 n2 h' tk' ⟨c2, hv1, hc2, LL2⟩ F' N'; have HH2 := LL2.has (HH.cons.cons.cons.cons.cons); obtain ⟨τ, hτ1, hτ2, hτ3⟩ := hv1; obtain ⟨t1, rfl⟩ := hτ1.ref; replace LL2 := LL2.drop.drop.drop.drop.drop; have nn2 := LL2.tap.nn; any_goals (refine hK9 _ _ _ ?_))
  k_with "call ref" => (refine' Spec.useK (t_next w tp l2 (c2 + 1 + 1) _ ?Ad ?Bd 6 _ ?Cd) ?Dd ?Ed ?Fd ?Gd ?Hd ?Id ?Jd ?Kd ?_ ?_; (case Dd | Ed | Fd | Gd | Hd | Id => walk_at "u9"); (case Ad => exact LB4.tap.cons.cons.cons.cons.cons.cons.cons.cons.cons); (case Bd | Cd => walk_at "q9"); (case Jd | Kd => walk_at "h9"); rotate_left; exact OutE.none; intro K9 hK9; rintro v n5 h' tk' ⟨x5, kx5, hx50, hx51, LA5⟩ F' N'; have hL5 := LA5.keep.1 _ (.head _) (notTp HH4 hMs (by first | assumption | exact allLt_of (by assumption) | exact (And.right (by assumption)) | exact (And.right (And.right (by assumption))) | exact (And.right (And.right (And.right (by assumption)))) | exact (And.right (And.right (And.right (And.right (by assumption))))) | exact (And.right (And.right (And.right (And.right (And.right (by assumption)))))) | exact (And.right (And.right (And.right (And.right (And.right (And.right (by assumption))))))) | exact (And.right (And.right (And.right (And.right (And.right (And.right (And.right (by assumption)))))))) | exact (And.right (And.right (And.right (And.right (And.right (And.right (And.right (And.right (by assumption))))))))) | exact (And.right (And.right (And.right (And.right (And.right (And.right (And.right (And.right (And.right (by assumption)))))))))) | exact (And.right (And.right (And.right (And.right (And.right (And.right (And.right (And.right (And.right (And.right (by assumption))))))))))))); have LB5 := LA5.drop.drop.drop.drop.drop.drop.drop.drop.drop; have hτ1 := LB5.tr hMs hτ1; have hb9 := LB5.trn hMs hb9; have hm9 := (LB5.keepTr hMs).2.1 hm9; have HH5 := LB5.has HH4; any_goals (refine hK9 _ _ _ ?_))
  k_with "call ref" => (refine' Spec.useK (t_next w tp l2 (c2 + 1) _ ?Ae ?Be 4 _ ?Ce) ?De ?Ee ?Fe ?Ge ?He ?Ie ?Je ?Ke ?_ ?_; (case De | Ee | Fe | Ge | He | Ie => walk_at "u9"); (case Ae => exact LB3.tap.cons.cons.cons.cons.cons); (case Be | Ce => walk_at "q9"); (case Je | Ke => walk_at "h9"); rotate_left; exact OutE.none; intro K9 hK9; rintro v n4 h' tk' ⟨x4, kx4, hx40, hx41, LA4⟩ F' N'; have hL4 := LA4.keep.1 _ (.head _) (notTp HH3 hMs (by first | assumption | exact allLt_of (by assumption) | exact (And.right (by assumption)) | exact (And.right (And.right (by assumption))) | exact (And.right (And.right (And.right (by assumption)))) | exact (And.right (And.right (And.right (And.right (by assumption))))) | exact (And.right (And.right (And.right (And.right (And.right (by assumption)))))) | exact (And.right (And.right (And.right (And.right (And.right (And.right (by assumption))))))) | exact (And.right (And.right (And.right (And.right (And.right (And.right (And.right (by assumption)))))))) | exact (And.right (And.right (And.right (And.right (And.right (And.right (And.right (And.right (by assumption))))))))) | exact (And.right (And.right (And.right (And.right (And.right (And.right (And.right (And.right (And.right (by assumption)))))))))) | exact (And.right (And.right (And.right (And.right (And.right (And.right (And.right (And.right (And.right (And.right (by assumption))))))))))))); have LB4 := LA4.drop.drop.drop.drop.drop; have hτ1 := LB4.tr hMs hτ1; have hb9 := LB4.trn hMs hb9; have HH4 := LB4.has HH3; any_goals (refine hK9 _ _ _ ?_))
  k_with "call ref" => (refine' Spec.useK (t_next w tp l2 c2 _ ?Af ?Bf 6 _ ?Cf) ?Df ?Ef ?Ff ?Gf ?Hf ?If ?Jf ?Kf ?_ ?_; (case Df | Ef | Ff | Gf | Hf | If => walk_at "u9"); (case Af => exact LL2.tap.cons.cons.cons.cons.cons.cons.cons.cons); (case Bf | Cf => walk_at "q9"); (case Jf | Kf => walk_at "h9"); rotate_left; exact OutE.none; intro K9 hK9; rintro v n3 h' tk' ⟨x3, kx3, hx30, hx31, LA3⟩ F' N'; have hL3 := LA3.keep.1 _ (.head _) (notTp HH2 hMs (by first | assumption | exact allLt_of (by assumption) | exact (And.right (by assumption)) | exact (And.right (And.right (by assumption))) | exact (And.right (And.right (And.right (by assumption)))) | exact (And.right (And.right (And.right (And.right (by assumption))))) | exact (And.right (And.right (And.right (And.right (And.right (by assumption)))))) | exact (And.right (And.right (And.right (And.right (And.right (And.right (by assumption))))))) | exact (And.right (And.right (And.right (And.right (And.right (And.right (And.right (by assumption)))))))) | exact (And.right (And.right (And.right (And.right (And.right (And.right (And.right (And.right (by assumption))))))))) | exact (And.right (And.right (And.right (And.right (And.right (And.right (And.right (And.right (And.right (by assumption)))))))))) | exact (And.right (And.right (And.right (And.right (And.right (And.right (And.right (And.right (And.right (And.right (by assumption))))))))))))); have LB3 := LA3.drop.drop.drop.drop.drop.drop.drop.drop; have hτ1 := LB3.tr hMs hτ1; have HH3 := LB3.has HH2; any_goals (refine hK9 _ _ _ ?_))
  k_with "call ref" => (refine' Spec.useK (t_next w tp l2 c _ ?Ag ?Bg 5 _ ?Cg) ?Dg ?Eg ?Fg ?Gg ?Hg ?Ig ?Jg ?Kg ?_ ?_; (case Dg | Eg | Fg | Gg | Hg | Ig => walk_at "u9"); (case Ag => assumption); (case Bg | Cg => walk_at "q9"); (case Jg | Kg => walk_at "h9"); rotate_left; exact OutE.none; intro K9 hK9; rintro v n1 h' tk' ⟨x, kx, hx0, hx1, LL⟩ F' N'; have HH := LL.has HM; have tt1 := LL.tap; any_goals (refine hK9 _ _ _ ?_))
  k_with "subscriptTail" => (refine' item_P (k := 6) (P := WordN Ms n5) ?Ah ?Bh ?Ch ?Dh ?Eh ?Fh ?Gh ?_ ?Hh; (case Ah => k_asm); (case Bh => exact hL5); (case Ch => exact List.forall_mem_cons.mpr ⟨(LA5.keepTr hMs).2.2 ⟨.text "uvw", ⟨_, _, _, rfl, by walk_at "m9"⟩, trivial, (show PySem.Str.length _ ≤ 4 from by decide)⟩, List.forall_mem_cons.mpr ⟨(LA5.keepTr hMs).2.2 ⟨.text "", ⟨_, _, _, rfl, by walk_at "m9"⟩, trivial, (show PySem.Str.length _ ≤ 4 from by decide)⟩, List.forall_mem_cons.mpr ⟨(LA5.keepTr hMs).2.2 ⟨.name .S, ⟨_, _, _, rfl, by walk_at "m9"⟩, trivial, trivial⟩, List.forall_mem_cons.mpr ⟨(LA5.keepTr hMs).2.2 ⟨.item .W (.name .J), ⟨_, _, _, _, _, _, rfl, by walk_at "m9", by walk_at "m9", HH4.lt (by first | assumption | exact allLt_of (by assumption) | exact (And.right (by assumption)) | exact (And.right (And.right (by assumption))) | exact (And.right (And.right (And.right (by assumption)))) | exact (And.right (And.right (And.right (And.right (by assumption))))) | exact (And.right (And.right (And.right (And.right (And.right (by assumption)))))) | exact (And.right (And.right (And.right (And.right (And.right (And.right (by assumption))))))) | exact (And.right (And.right (And.right (And.right (And.right (And.right (And.right (by assumption)))))))) | exact (And.right (And.right (And.right (And.right (And.right (And.right (And.right (And.right (by assumption))))))))) | exact (And.right (And.right (And.right (And.right (And.right (And.right (And.right (And.right (And.right (by assumption)))))))))) | exact (And.right (And.right (And.right (And.right (And.right (And.right (And.right (And.right (And.right (And.right (by assumption)))))))))))), ⟨_, _, _, rfl, by walk_at "m9"⟩⟩, ⟨trivial, rfl⟩, trivial⟩, List.forall_mem_cons.mpr ⟨(LA5.keepTr hMs).2.2 ⟨.text "z", ⟨_, _, _, rfl, by walk_at "m9"⟩, trivial, (show PySem.Str.length _ ≤ 4 from by decide)⟩, List.forall_mem_cons.mpr ⟨(LA5.keepTr hMs).2.2 ⟨.name .I, ⟨_, _, _, rfl, by walk_at "m9"⟩, trivial, trivial⟩, List.forall_mem_nil _⟩⟩⟩⟩⟩⟩); (case Dh => rfl); (case Eh | Fh => omega); (case Gh => decide); (case Hh => with_unfolding_all rfl); k_whole; intro vw hw9; obtain ⟨φ, hφ1, hφ2, hφ3⟩ := hb9; obtain ⟨tf, rfl⟩ := hφ1.ref; obtain ⟨υ, hυ1, hυ2, hυ3⟩ := hw9; obtain ⟨tw, rfl⟩ := hυ1.ref)
  k_with "subscriptTail Name Constant ref int" => (refine' item_P (k := 6) (P := WordN Ms n5) ?Ai ?Bi ?Ci ?Di ?Ei ?Fi ?Gi ?_ ?Hi; (case Ai => k_asm); (case Bi => exact hL5); (case Ci => exact List.forall_mem_cons.mpr ⟨(LA5.keepTr hMs).2.2 ⟨.text "uvw", ⟨_, _, _, rfl, by walk_at "m9"⟩, trivial, (show PySem.Str.length _ ≤ 4 from by decide)⟩, List.forall_mem_cons.mpr ⟨(LA5.keepTr hMs).2.2 ⟨.text "", ⟨_, _, _, rfl, by walk_at "m9"⟩, trivial, (show PySem.Str.length _ ≤ 4 from by decide)⟩, List.forall_mem_cons.mpr ⟨(LA5.keepTr hMs).2.2 ⟨.name .S, ⟨_, _, _, rfl, by walk_at "m9"⟩, trivial, trivial⟩, List.forall_mem_cons.mpr ⟨(LA5.keepTr hMs).2.2 ⟨.item .W (.name .J), ⟨_, _, _, _, _, _, rfl, by walk_at "m9", by walk_at "m9", HH4.lt (by first | assumption | exact allLt_of (by assumption) | exact (And.right (by assumption)) | exact (And.right (And.right (by assumption))) | exact (And.right (And.right (And.right (by assumption)))) | exact (And.right (And.right (And.right (And.right (by assumption))))) | exact (And.right (And.right (And.right (And.right (And.right (by assumption)))))) | exact (And.right (And.right (And.right (And.right (And.right (And.right (by assumption))))))) | exact (And.right (And.right (And.right (And.right (And.right (And.right (And.right (by assumption)))))))) | exact (And.right (And.right (And.right (And.right (And.right (And.right (And.right (And.right (by assumption))))))))) | exact (And.right (And.right (And.right (And.right (And.right (And.right (And.right (And.right (And.right (by assumption)))))))))) | exact (And.right (And.right (And.right (And.right (And.right (And.right (And.right (And.right (And.right (And.right (by assumption)))))))))))), ⟨_, _, _, rfl, by walk_at "m9"⟩⟩, ⟨trivial, rfl⟩, trivial⟩, List.forall_mem_cons.mpr ⟨(LA5.keepTr hMs).2.2 ⟨.text "z", ⟨_, _, _, rfl, by walk_at "m9"⟩, trivial, (show PySem.Str.length _ ≤ 4 from by decide)⟩, List.forall_mem_cons.mpr ⟨(LA5.keepTr hMs).2.2 ⟨.name .I, ⟨_, _, _, rfl, by walk_at "m9"⟩, trivial, trivial⟩, List.forall_mem_nil _⟩⟩⟩⟩⟩⟩); (case Di => rfl); (case Ei | Fi => omega); (case Gi => decide); (case Hi => with_unfolding_all rfl); k_whole; intro vw hw9; obtain ⟨φ, hφ1, hφ2, hφ3⟩ := hb9; obtain ⟨tf, rfl⟩ := hφ1.ref; obtain ⟨υ, hυ1, hυ2, hυ3⟩ := hw9; obtain ⟨tw, rfl⟩ := hυ1.ref)
  k_with "subscriptTail" => (refine' item_P (k := 4) (P := ManyN Ms n4) ?Aj ?Bj ?Cj ?Dj ?Ej ?Fj ?Gj ?_ ?Hj; (case Aj => k_asm); (case Bj => exact hL4); (case Cj => exact List.forall_mem_cons.mpr ⟨.inl rfl, List.forall_mem_cons.mpr ⟨.inr (LA4.trn hMs ⟨.whole 1, ⟨_, _, _, rfl, by walk_at "m9"⟩, ⟨by decide, by decide⟩, ⟨by decide, by decide⟩⟩), List.forall_mem_cons.mpr ⟨.inr (LA4.trn hMs ⟨.whole 0, ⟨_, _, _, rfl, by walk_at "m9"⟩, ⟨by decide, by decide⟩, ⟨by decide, by decide⟩⟩), List.forall_mem_cons.mpr ⟨.inr (LA4.trn hMs ⟨.neg 1, ⟨_, _, _, _, _, rfl, by walk_at "m9", by walk_at "m9"⟩, ⟨by decide, by decide⟩, ⟨by decide, by decide⟩⟩), List.forall_mem_nil _⟩⟩⟩⟩); (case Dj => rfl); (case Ej | Fj => omega); (case Gj => decide); (case Hj => with_unfolding_all rfl); k_whole; intro vm hm9)
  k_with "subscriptTail Name Constant ref int" => (refine' item_P (k := 4) (P := ManyN Ms n4) ?Ak ?Bk ?Ck ?Dk ?Ek ?Fk ?Gk ?_ ?Hk; (case Ak => k_asm); (case Bk => exact hL4); (case Ck => exact List.forall_mem_cons.mpr ⟨.inl rfl, List.forall_mem_cons.mpr ⟨.inr (LA4.trn hMs ⟨.whole 1, ⟨_, _, _, rfl, by walk_at "m9"⟩, ⟨by decide, by decide⟩, ⟨by decide, by decide⟩⟩), List.forall_mem_cons.mpr ⟨.inr (LA4.trn hMs ⟨.whole 0, ⟨_, _, _, rfl, by walk_at "m9"⟩, ⟨by decide, by decide⟩, ⟨by decide, by decide⟩⟩), List.forall_mem_cons.mpr ⟨.inr (LA4.trn hMs ⟨.neg 1, ⟨_, _, _, _, _, rfl, by walk_at "m9", by walk_at "m9"⟩, ⟨by decide, by decide⟩, ⟨by decide, by decide⟩⟩), List.forall_mem_nil _⟩⟩⟩⟩); (case Dk => rfl); (case Ek | Fk => omega); (case Gk => decide); (case Hk => with_unfolding_all rfl); k_whole; intro vm hm9)
  k_with "subscriptTail" => (refine' item_P (k := 6) (P := TrN Ms n3) ?Al ?Bl ?Cl ?Dl ?El ?Fl ?Gl ?_ ?Hl; (case Al => k_asm); (case Bl => exact hL3); (case Cl => exact List.forall_mem_cons.mpr ⟨LA3.trn hMs ⟨.whole 0, ⟨_, _, _, rfl, by walk_at "m9"⟩, ⟨by decide, by decide⟩, ⟨by decide, by decide⟩⟩, List.forall_mem_cons.mpr ⟨LA3.trn hMs ⟨.whole 1, ⟨_, _, _, rfl, by walk_at "m9"⟩, ⟨by decide, by decide⟩, ⟨by decide, by decide⟩⟩, List.forall_mem_cons.mpr ⟨LA3.trn hMs ⟨.whole 2, ⟨_, _, _, rfl, by walk_at "m9"⟩, ⟨by decide, by decide⟩, ⟨by decide, by decide⟩⟩, List.forall_mem_cons.mpr ⟨LA3.trn hMs ⟨.name .I, ⟨_, _, _, rfl, by walk_at "m9"⟩, trivial, rfl⟩, List.forall_mem_cons.mpr ⟨LA3.trn hMs ⟨.whole 4, ⟨_, _, _, rfl, by walk_at "m9"⟩, ⟨by decide, by decide⟩, ⟨by decide, by decide⟩⟩, List.forall_mem_cons.mpr ⟨LA3.trn hMs ⟨.fn, ⟨_, _, _, _, _, rfl, by walk_at "m9", by walk_at "m9", HH2.lt (by first | assumption | exact allLt_of (by assumption) | exact (And.right (by assumption)) | exact (And.right (And.right (by assumption))) | exact (And.right (And.right (And.right (by assumption)))) | exact (And.right (And.right (And.right (And.right (by assumption))))) | exact (And.right (And.right (And.right (And.right (And.right (by assumption)))))) | exact (And.right (And.right (And.right (And.right (And.right (And.right (by assumption))))))) | exact (And.right (And.right (And.right (And.right (And.right (And.right (And.right (by assumption)))))))) | exact (And.right (And.right (And.right (And.right (And.right (And.right (And.right (And.right (by assumption))))))))) | exact (And.right (And.right (And.right (And.right (And.right (And.right (And.right (And.right (And.right (by assumption)))))))))) | exact (And.right (And.right (And.right (And.right (And.right (And.right (And.right (And.right (And.right (And.right (by assumption))))))))))))⟩, trivial, trivial⟩, List.forall_mem_nil _⟩⟩⟩⟩⟩⟩); (case Dl => rfl); (case El | Fl => omega); (case Gl => decide); (case Hl => with_unfolding_all rfl); k_whole; intro vb hb9)
  k_with "subscriptTail Name Constant ref int" => (refine' item_P (k := 6) (P := TrN Ms n3) ?Am ?Bm ?Cm ?Dm ?Em ?Fm ?Gm ?_ ?Hm; (case Am => k_asm); (case Bm => exact hL3); (case Cm => exact List.forall_mem_cons.mpr ⟨LA3.trn hMs ⟨.whole 0, ⟨_, _, _, rfl, by walk_at "m9"⟩, ⟨by decide, by decide⟩, ⟨by decide, by decide⟩⟩, List.forall_mem_cons.mpr ⟨LA3.trn hMs ⟨.whole 1, ⟨_, _, _, rfl, by walk_at "m9"⟩, ⟨by decide, by decide⟩, ⟨by decide, by decide⟩⟩, List.forall_mem_cons.mpr ⟨LA3.trn hMs ⟨.whole 2, ⟨_, _, _, rfl, by walk_at "m9"⟩, ⟨by decide, by decide⟩, ⟨by decide, by decide⟩⟩, List.forall_mem_cons.mpr ⟨LA3.trn hMs ⟨.name .I, ⟨_, _, _, rfl, by walk_at "m9"⟩, trivial, rfl⟩, List.forall_mem_cons.mpr ⟨LA3.trn hMs ⟨.whole 4, ⟨_, _, _, rfl, by walk_at "m9"⟩, ⟨by decide, by decide⟩, ⟨by decide, by decide⟩⟩, List.forall_mem_cons.mpr ⟨LA3.trn hMs ⟨.fn, ⟨_, _, _, _, _, rfl, by walk_at "m9", by walk_at "m9", HH2.lt (by first | assumption | exact allLt_of (by assumption) | exact (And.right (by assumption)) | exact (And.right (And.right (by assumption))) | exact (And.right (And.right (And.right (by assumption)))) | exact (And.right (And.right (And.right (And.right (by assumption))))) | exact (And.right (And.right (And.right (And.right (And.right (by assumption)))))) | exact (And.right (And.right (And.right (And.right (And.right (And.right (by assumption))))))) | exact (And.right (And.right (And.right (And.right (And.right (And.right (And.right (by assumption)))))))) | exact (And.right (And.right (And.right (And.right (And.right (And.right (And.right (And.right (by assumption))))))))) | exact (And.right (And.right (And.right (And.right (And.right (And.right (And.right (And.right (And.right (by assumption)))))))))) | exact (And.right (And.right (And.right (And.right (And.right (And.right (And.right (And.right (And.right (And.right (by assumption))))))))))))⟩, trivial, trivial⟩, List.forall_mem_nil _⟩⟩⟩⟩⟩⟩); (case Dm => rfl); (case Em | Fm => omega); (case Gm => decide); (case Hm => with_unfolding_all rfl); k_whole; intro vb hb9)
  k_with "subscriptTail" => (refine' item_signs ?An ?Bn ?Cn ?Dn ?En ?Fn ?Gn ?_ ?Hn; (case An => k_asm); (case Bn | Cn => walk_at "m9"); (case Dn | En | Fn => walk_at "m9"); (case Gn => omega); (case Hn => with_unfolding_all rfl); k_whole; intro r9 a9 b9 k9 k9' hm9)
  k_with "subscriptTail Name Constant ref int" => (refine' item_signs ?Ao ?Bo ?Co ?Do ?Eo ?Fo ?Go ?_ ?Ho; (case Ao => k_asm); (case Bo | Co => walk_at "m9"); (case Do | Eo | Fo => walk_at "m9"); (case Go => omega); (case Ho => with_unfolding_all rfl); k_whole; intro r9 a9 b9 k9 k9' hm9)
  refine Spec.intro ?_
  intro p loose mean mg mb dp un gd cn cs a ccd cl outer A₀ base h₀ L m hs9 gs9 ds9 ks9 os9 Q E B F X N T hk hd hu hret hout
  revert X; k_fill; intro X
  refine wpAny_call ?_
  k_dflt ktr_enter
  k_steps
  all_goals first
    | exact hret _ _ _ _ ⟨c3, ⟨.swap τ υ, ⟨_, _, _, _, rfl, .head _, hτ1'.up (fun p hp => .tail _ hp), hυ1.up (fun p hp => .tail _ hp)⟩, hτ2, hυ2⟩, by omega, ((LL.trans LL2).trans LL3).cons⟩ (by k_asm) (by k_asm)
    | exact hret _ _ _ _ ⟨c2 + 1 + 1 + 1, mid_ord (.head _) (hτ1.up (fun p hp => .tail _ hp)) (hφ1.up (fun p hp => .tail _ hp)) (hυ1.up (fun p hp => .tail _ hp)) (hm9.up (fun p hp => .tail _ hp)) ⟨hτ2, hτ3, hφ2, hφ3, hυ2, hυ3⟩, by omega, ((((LL.trans LL2).trans LB3).trans LB4).trans LB5).cons⟩ (by k_asm) (by k_asm)
theorem s_count (w : World) (news : Led) (hl nh : Nat) (kh kb : Tok) (hm : (hl, listOf #[.int 3 kh] nh) ∈ news) : Spec w 274 [.ref hl, .int 0 kb] 4 news (GotI news 4) (fun _ _ => False) := by
  k_with_none
  k_with "UnrEndW" => ((refine' unr_var ?Aa ?Ba ?Ca ⟨?Da, ?_⟩; (case Aa | Ba => assumption); (case Ca => (intro p' hp' q' hq'; have hlt' := ktn_ltOf ‹AllLt _ _› p' hp'; simp only [List.mem_cons, List.not_mem_nil, or_false] at hq'; rcases hq' with h1 | h1 | h1 | h1 | h1 <;> (rw [h1]; refine neN ?_; refine Nat.ne_of_lt (Nat.lt_of_lt_of_le hlt' ?_); simp))); (case Da => (repeat (first | exact trivial | refine And.intro (by k_mem) ?_)))))
  k_with "UnrEndW" => ((refine' unr_var ?Ab ?Bb ?Cb ⟨?Db, ?_⟩; (case Ab | Bb => assumption); (case Cb => (intro p' hp' q' hq'; rw [List.mem_singleton.mp hq']; exact Nat.ne_of_lt (ktn_ltOf (by assumption) p' hp'))); (case Db => (repeat (first | exact trivial | refine And.intro (by k_mem) ?_)))))
  k_with "exec For Name Name cons nil" => (rename Fr _ _ _ _ => lF'); (with_unfolding_all refine' For_turns lF' ?_; k_whole)
  k_with "pyIter ref" => (rename Fr _ _ _ _ => lF'); (with_reducible rename News _ _ _ _ => lN'); (with_unfolding_all refine iter_listTurns (lo := listOf #[.int 3 kh] nh) (vs := [.int 3 kh]) (by rfl) lF' lN' hm (by rfl) (by rfl) ?_); clear lF'; intro i' l1; (first | k_lt l1 | replace l1 := allLt_of l1)
  refine Spec.intro ?_
  intro p loose mean mg mb dp un gd cn cs a ccd cl outer A₀ base h₀ L m hs9 gs9 ds9 ks9 os9 Q E B F X N T hk hd hu hret hout
  revert X; k_fill; intro X
  refine wpAny_call ?_
  k_dflt ktr_enter
  k_steps
  all_goals first
    | exact hret _ _ _ _ ⟨_⟩ (by k_asm) (by k_asm)
theorem newDict_L {prog : Program} {w : World} {A : Around} {E : Value → Shared → Prop} {s : Shared} {h₀ : Heap} {L : Addr} {m : Str → Option Value} {news : Led} {env : Env} {pos : Pos} {Q : Value → Shared → Prop} (F : Fr h₀ L s.heap m) (N : News h₀ L s.heap news)
    (k : ∀ (d : Nat) h', Fr h₀ L h' m → News h₀ L h' ((d, dictOf [] 0) :: news) → (∀ p ∈ news, p.1 < d) → Q (.ref d) { s with heap := h' }) : wpAny (model prog w) A (eval (.Dict [] [] pos) env) Q E s :=
  wpAny_Dict_empty (k _ _ (F.push _) (News.push F N _) fun p hp => Heap.lt_size (N p hp).1)
theorem World_sub {h₀ h : Heap} {L : Addr} {news : Led} {fl op fi fn ki ar na x d : Addr × Obj} (N : News h₀ L h (d :: fl :: op :: fi :: fn :: ki :: ar :: na :: x :: news)) : News h₀ L h (fl :: fn :: ki :: ar :: na :: x :: d :: news) := fun p hp => N p (by
  rcases List.mem_cons.mp hp with rfl | hp
  · exact .tail _ (.head _)
  simp only [List.mem_cons] at hp ⊢
  rcases hp with hp | hp | hp | hp | hp | hp | hp <;> simp [hp])
theorem lt_of {D a : Nat} {l : Led} (i : Nat) (h : ∀ p ∈ l, p.1 < D) (e : (at9 l i).map (·.1) = some a) : a < D := by
  obtain ⟨p, hp, rfl⟩ := Option.map_eq_some_iff.mp e
  exact h _ (mem9 i hp)
noncomputable def isI9 (i : Int) : Option (Option Value) → Bool
  | some (some (.int j _)) => j == i
  | _ => false
theorem int_of {i : Int} {o : Option (Option Value)} (h : isI9 i o = true) : ∃ k, o = some (some (.int i k)) := by
  unfold isI9 at h
  split at h
  · obtain rfl := eq_of_beq h; exact ⟨_, rfl⟩
  · cases h
structure WldOk (esW : List DictEntry) (aN aArr aK aF aFl : Nat) : Prop where
  names : getL "names" esW = some (some (.ref aN))
  arrays : getL "arrays" esW = some (some (.ref aArr))
  kinds : getL "kinds" esW = some (some (.ref aK))
  fns : getL "fns" esW = some (some (.ref aF))
  fields : getL "fields" esW = some (some (.ref aFl))
  bits : ∃ k, getL "bits" esW = some (some (.int 16 k))
  digits : ∃ k, getL "digits" esW = some (some (.int 9 k))
  base : ∃ k, getL "base" esW = some (some (.int 0 k))
  room : ∃ k, getL "room" esW = some (some (.int 2000 k))
inductive WorldN (news : Led) (v : Value) (n : Led) : Prop | mk (d x aN aArr aK aF aFl nW : Nat) (esW : List DictEntry) (e : v = .ref x) (e2 : n = (aFl, dictOf [] 0) :: (aF, dictOf [] 0) :: (aK, dictOf [] 0) :: (aArr, dictOf [] 0) :: (aN, dictOf [] 0) :: (x, instObj 181 d) :: (d, dictOf esW nW) :: news) (W : WldOk esW aN aArr aK aF aFl) (l : AllLt d news) (l0 : d < x) (l1 : x < aN) (l2 : aN < aArr) (l3 : aArr < aK) (l4 : aK < aF) (l5 : aF < aFl)
theorem s_World (w : World) (news : Led) : Spec w 181 [] 6 news (WorldN news) (fun _ _ => False) := by
  k_with_none
  k_with "call ref" => (refine' call_cls ?Aa ?Ba ?Ca ?Da ?Ea ?Fa ?_; (case Aa | Ba | Ca => k_asm); (case Da | Ea | Fa => k_is); k_whole; intro x' d' h' F' N' l1 l2; (refine' code_def ?Aa ?Ba ?Ca ?Da ?Ea ?Ga ?Ha ?Ia ?Fa ?Ja ?Ka ?La ?Ma ?_ ?Na ?Oa ?Pa ?Qa; (case Ga | Ha => exact rfl); (case Ia => first | assumption | exact rfl); (case Aa | Ba => k_asm); (case Ca | Da | Ea => k_asm); (case Fa | Ja => k_is); (case Ka => ktr_room); (case La => first | exact BindsTo.of_eq rfl | exact binds_K (by k_in) rfl (by k_is) rfl rfl rfl); (case Qa => decide); (case Ma => exact locs rfl); (case Na | Oa | Pa => exact rfl); k_whole; intro g' L' h' FG' F' N' B' X' T'; refine let_A ?_; intro A9 env9; dsimp only; have I9 := Ini.start F' N' l1 l2 X' rfl (by k_is) (by k_is) (by k_is); clear F' N'; (repeat (first | ((with_reducible show wpAny _ _ (execs (Stmt.Assign _ (Expr.Name _ _) _ :: _) _) _ _ _); refine' ini_name I9 ?Ra ?Sa ?Ta ?Ua ?_; (case Ra => exact @rfl _ (some _)); (case Ta => kernel_rfl); (case Ua => exact rfl); (case Sa => k_is); intro h' tk t e9 I9) | ((with_reducible show wpAny _ _ (execs (Stmt.Assign _ (Expr.Constant (PySem.Const.int _) _ _) _ :: _) _) _ _ _); refine' ini_int I9 ?Sa ?Ta ?Ua ?_; (case Ta => kernel_rfl); (case Ua => exact rfl); (case Sa => k_is); intro u h' tk t e9 I9) | ((with_reducible show wpAny _ _ (execs (Stmt.Assign _ (Expr.Constant (PySem.Const.str _) _ _) _ :: _) _) _ _ _); refine' ini_str I9 ?Sa ?Ta ?Ua ?_; (case Ta => kernel_rfl); (case Ua => exact rfl); (case Sa => k_is); intro u h' tk t e9 I9) | ((with_reducible show wpAny _ _ (execs (Stmt.Assign _ (Expr.Constant (PySem.Const.bool _) _ _) _ :: _) _) _ _ _); refine' ini_bool I9 ?Sa ?Ta ?Ua ?_; (case Ta => kernel_rfl); (case Ua => exact rfl); (case Sa => k_is); intro h' tk t e9 I9) | ((with_reducible show wpAny _ _ (execs (Stmt.Assign _ (Expr.List _ _) _ :: _) _) _ _ _); refine' ini_list I9 ?Sa ?Ta ?Ua ?_; (case Ta => kernel_rfl); (case Ua => exact rfl); (case Sa => k_is); intro D h' tk t e9 I9) | ((with_reducible show wpAny _ _ (execs (Stmt.Assign _ (Expr.Dict _ _ _) _ :: _) _) _ _ _); refine' ini_dict I9 ?Sa ?Ta ?Ua ?_; (case Ta => kernel_rfl); (case Ua => exact rfl); (case Sa => k_is); intro D h' tk t e9 r9 l9 I9))); obtain ⟨F', ⟨n9, N'⟩, _, _⟩ := I9))
  refine Spec.intro ?_
  intro p loose mean mg mb dp un gd cn cs a ccd cl outer A₀ base h₀ L m hs9 gs9 ds9 ks9 os9 Q E B F X N T hk hd hu hret hout
  revert X; k_fill; intro X
  k_steps
  (refine' hret _ _ _ _ ?Pz9 ?zFz9 (World_sub ?zNz9); (case zFz9 => k_asm); (case zNz9 => assumption); refine ⟨_, _, _, _, _, _, _, _, _, rfl, rfl, ⟨by kernel_rfl, by kernel_rfl, by kernel_rfl, by kernel_rfl, by kernel_rfl, int_of (by kernel_rfl), int_of (by kernel_rfl), int_of (by kernel_rfl), int_of (by kernel_rfl)⟩, allLt_of (by assumption), by assumption, ?l1z9, ?l2z9, ?l3z9, ?l4z9, ?l5z9⟩; all_goals (first | (refine' lt_of 0 ?hz9 ?ez9; (case hz9 => assumption); (case ez9 => exact rfl)) | (refine' lt_of 2 ?hz9 ?ez9; (case hz9 => assumption); (case ez9 => exact rfl))))
theorem Run_sub {h₀ h : Heap} {L : Addr} {news : Led} {a b c d r dr : Addr × Obj} (N : News h₀ L h (a :: b :: c :: d :: r :: dr :: news)) : News h₀ L h (a :: r :: dr :: news) := fun p hp => N p (by
  rcases List.mem_cons.mp hp with rfl | hp
  · exact .head _
  · exact .tail _ (.tail _ (.tail _ (.tail _ hp))))
structure RunOk (esR : List DictEntry) (x ask ans : Nat) : Prop where
  rWorld : getL "world" esR = some (some (.ref x))
  rAsked : getL "asked" esR = some (some (.ref ask))
  rAnswers : getL "answers" esR = some (some (.ref ans))
  rBits : ∃ k, getL "bits" esR = some (some (.int 16 k))
  rDigits : ∃ k, getL "digits" esR = some (some (.int 9 k))
  rNo : ∀ x ∈ (["worth", "whole", "value_of_name", "item_of", "call", "fn", "answered", "store", "put"] : List String), getL (Str.ofString x) esR = some none
inductive RunN (news : Led) (x ans : Nat) (v : Value) (n : Led) : Prop | mk (dR r ask nR : Nat) (esR : List DictEntry) (e : v = .ref r) (e2 : n = (ask, listOf #[] 0) :: (r, instObj 732 dR) :: (dR, dictOf esR nR) :: news) (W : RunOk esR x ask ans) (l : AllLt dR news) (l0 : dR < r) (l1 : r < ask)
theorem s_WorkRun (w : World) (news : Led) (x d ans aN aArr aK aF aFl nW : Nat) (esW : List DictEntry) (hx : (x, instObj 181 d) ∈ news) (hd9 : (d, dictOf esW nW) ∈ news) (WW : WldOk esW aN aArr aK aF aFl) : Spec w 732 [.ref x, .none, .ref ans] 6 news (RunN news x ans) (fun _ _ => False) := by
  k_with_none
  k_with "setAttr ref" => (refine tk_gen ?_; intro tk9; refine' tk_set ?Aa ?Ba ?Ca ?Da ?Ea ?Fa ?Ga ?Ha ?Ia ?Ja ?Ka ?La ?Ma ?_; (case Aa | Ba | Ca => k_asm); (case Da => k_inst); (case Ea => exact rfl); (case Fa | Ga => k_is); (case Ha | Ia => k_is); (case Ja => k_get); (case Ka => k_put); (case La => k_upd); (case Ma => exact Nat.le_of_ble_eq_true rfl); k_whole; intro h' tk9 F' N'; (try k_sweep))
  k_with "call ref" => (refine' call_cls ?Ab ?Bb ?Cb ?Db ?Eb ?Fb ?_; (case Ab | Bb | Cb => k_asm); (case Db | Eb | Fb => k_is); k_whole; intro x' d' h' F' N' l1 l2; (first | k_lt l1 | replace l1 := allLt_of l1); (try k_lt2 l2); (try k_sweep); (refine' code_def ?Ab ?Bb ?Cb ?Db ?Eb ?Gb ?Hb ?Ib ?Fb ?Jb ?Kb ?Lb ?Mb ?_ ?Nb ?Ob ?Pb ?Qb; (case Gb | Hb => exact rfl); (case Ib => first | assumption | exact rfl); (case Ab | Bb => k_asm); (case Cb | Db | Eb => k_asm); (case Fb | Jb => k_is); (case Kb => ktr_room); (case Lb => first | exact BindsTo.of_eq rfl | exact binds_K (by k_in) rfl (by k_is) rfl rfl rfl); (case Qb => decide); (case Mb => exact locs rfl); (case Nb | Ob | Pb => exact rfl); k_whole; intro g' L' h' FG' F' N' B' X' T'; (try dsimp only); (try k_fold)))
  refine Spec.intro ?_
  intro p loose mean mg mb dp un gd cn cs a ccd cl outer A₀ base h₀ L m hs9 gs9 ds9 ks9 os9 Q E B F X N T hk hd hu hret hout
  revert X; k_fill; intro X
  obtain ⟨kb, e1⟩ := WW.bits; obtain ⟨kd, e2⟩ := WW.digits
  k_steps
  all_goals first
    | (refine' hret _ _ _ _ ⟨_, _, _, _, _, rfl, rfl, ?zWz9, ?l1z9, ?l2z9, ?l3z9⟩ ?zFz9 (Run_sub ?zNz9); (case zFz9 => k_asm); (case zNz9 => assumption); (case zWz9 => exact ⟨rfl, rfl, rfl, ⟨_, rfl⟩, ⟨_, rfl⟩, List.forall_mem_cons.mpr ⟨rfl, List.forall_mem_cons.mpr ⟨rfl, List.forall_mem_cons.mpr ⟨rfl, List.forall_mem_cons.mpr ⟨rfl, List.forall_mem_cons.mpr ⟨rfl, List.forall_mem_cons.mpr ⟨rfl, List.forall_mem_cons.mpr ⟨rfl, List.forall_mem_cons.mpr ⟨rfl, List.forall_mem_cons.mpr ⟨rfl, List.forall_mem_nil _⟩⟩⟩⟩⟩⟩⟩⟩⟩⟩); all_goals first | assumption | omega)
theorem s_check (w : World) (news : Led) (x d aN aArr aK aF aFl nW : Nat) (esW : List DictEntry) (hx : (x, instObj 181 d) ∈ news) (hd9 : (d, dictOf esW nW) ∈ news) (WW : WldOk esW aN aArr aK aF aFl) (hl nh : Nat) (kh : Tok) (hm : (hl, listOf #[.int 3 kh] nh) ∈ news) : Spec w 288 [.ref x, .ref hl] 8 news (fun v n => news = n ∧ v = .none) (fun _ _ => False) := by
  k_with_none
  k_with "UnrEndW" => ((refine' unr_var ?Aa ?Ba ?Ca ⟨?Da, ?_⟩; (case Aa | Ba => assumption); (case Ca => (intro p' hp' q' hq'; have hlt' := ktn_ltOf ‹AllLt _ _› p' hp'; simp only [List.mem_cons, List.not_mem_nil, or_false] at hq'; rcases hq' with h1 | h1 | h1 | h1 | h1 <;> (rw [h1]; refine neN ?_; refine Nat.ne_of_lt (Nat.lt_of_lt_of_le hlt' ?_); simp))); (case Da => (repeat (first | exact trivial | refine And.intro (by k_mem) ?_)))))
  k_with "UnrEndW" => ((refine' unr_var ?Ab ?Bb ?Cb ⟨?Db, ?_⟩; (case Ab | Bb => assumption); (case Cb => (intro p' hp' q' hq'; rw [List.mem_singleton.mp hq']; exact Nat.ne_of_lt (ktn_ltOf (by assumption) p' hp'))); (case Db => (repeat (first | exact trivial | refine And.intro (by k_mem) ?_)))))
  k_with "call ref" => (refine' Spec.useK (s_count w _ hl nh kh _ ?Ac) ?Bc ?Cc ?Dc ?Ec ?Fc ?Gc ?Hc ?Ic ?_ ?_; (case Bc | Cc | Dc | Ec | Fc | Gc => walk_at "u9"); (case Ac => first | assumption | walk_at "m9"); (case Hc | Ic => walk_at "h9"); rotate_left; exact OutE.none; intro K9 hK9; rintro v n h' tk' ⟨kc⟩ F' N'; any_goals (refine hK9 _ _ _ ?_))
  k_with "exec For Name Name cons nil" => (rename Fr _ _ _ _ => lF'); (with_unfolding_all refine' For_turns lF' ?_; k_whole)
  k_with "pyIter ref" => (rename Fr _ _ _ _ => lF'); (with_reducible rename News _ _ _ _ => lN'); (with_unfolding_all refine iter_listTurns (lo := listOf #[.int 3 kh] nh) (vs := [.int 3 kh]) (by rfl) lF' lN' hm (by rfl) (by rfl) ?_); clear lF'; intro i' l1; (first | k_lt l1 | replace l1 := allLt_of l1)
  k_with "call builtin:len" => (refine' KM.len_K (n := 1) ?Ad ?Bd ?Cd ?Dd ?_; (case Ad => k_asm); (case Bd => walk_at "m9"); (case Cd => rfl); (case Dd => omega); k_whole)
  refine Spec.intro ?_
  intro p loose mean mg mb dp un gd cn cs a ccd cl outer A₀ base h₀ L m hs9 gs9 ds9 ks9 os9 Q E B F X N T hk hd hu hret hout
  obtain ⟨kb, e1⟩ := WW.base; obtain ⟨kr, e2⟩ := WW.room
  revert X; k_fill; intro X
  refine wpAny_call ?_
  k_dflt ktr_enter
  k_steps
  all_goals first
    | exact hret _ _ _ _ ⟨rfl, rfl⟩ (by k_asm) (by k_asm)
theorem mul4 {w : World} {A : Around} {E : Value → Shared → Prop} {s : Shared} {h₀ : Heap} {L : Addr} {m : Str → Option Value} {news : Led} {l n : Nat} {v : Value} {u : Tok} {Q : Value → Shared → Prop} (F : Fr h₀ L s.heap m) (N : News h₀ L s.heap news) (hm : (l, listOf #[v] n) ∈ news)
    (h : ∀ (D : Nat) h', Fr h₀ L h' m → News h₀ L h' ((D, listOf #[v, v, v, v] 0) :: news) → (∀ p ∈ news, p.1 < D) → Q (.ref D) { s with heap := h' }) : wpAny (MG w) A (binaryOp .Mult (.ref l) (.int 4 u)) Q E s := KMa.mul (vs := [v]) F N ⟨_, (N _ hm).1, rfl, n, rfl⟩ (by decide) (by decide) (show 1 * 4 ≤ 256 by decide) rfl h
structure GridOk (esG : List DictEntry) (b : Bool) (hi it : Nat) : Prop where
  kind : ∃ k, getL "kind" esG = some (some (.str (kindS b) k))
  highs : getL "highs" esG = some (some (.ref hi))
  base : ∃ k, getL "base" esG = some (some (.int 0 k))
  items : getL "items" esG = some (some (.ref it))
inductive GridN (kh : Tok) (news : Led) (b : Bool) (v : Value) (n : Led) : Prop | mk (dg g hi it nG nH : Nat) (esG : List DictEntry) (u : Value) (e : v = .ref g) (s : ∀ p ∈ news, p ∈ n) (a1 : (dg, dictOf esG nG) ∈ n) (a2 : (g, instObj 263 dg) ∈ n) (a3 : (hi, listOf #[.int 3 kh] nH) ∈ n) (a4 : (it, listOf #[u, u, u, u] 0) ∈ n) (a5 : VR n u (if b then .txt "" else .num 0)) (o : GridOk esG b hi it) (l : AllLt dg news) (l1 : dg < g) (l2 : g < hi) (l3 : hi < it)
theorem s_GridA (w : World) (news : Led) (hl nh : Nat) (kh k kb : Tok) (hm : (hl, listOf #[.int 3 kh] nh) ∈ news) : Spec w 263 [.str (kindS false) k, .ref hl, .int 0 kb] 8 news (fun v n => GridN kh news false v n) (fun _ _ => False) := by
  k_with_none
  k_with "setAttr ref" => (refine tk_gen ?_; intro tk9; refine' tk_set ?Aa ?Ba ?Ca ?Da ?Ea ?Fa ?Ga ?Ha ?Ia ?Ja ?Ka ?La ?Ma ?_; (case Aa | Ba | Ca => k_asm); (case Da => k_inst); (case Ea => exact rfl); (case Fa | Ga => k_is); (case Ha | Ia => k_is); (case Ja => k_get); (case Ka => k_put); (case La => k_upd); (case Ma => exact Nat.le_of_ble_eq_true rfl); k_whole; intro h' tk9 F' N'; (try k_sweep))
  k_with "call ref" => (refine' call_cls ?Ab ?Bb ?Cb ?Db ?Eb ?Fb ?_; (case Ab | Bb | Cb => k_asm); (case Db | Eb | Fb => k_is); k_whole; intro x' d' h' F' N' l1 l2; (first | k_lt l1 | replace l1 := allLt_of l1); (try k_lt2 l2); (try k_sweep); (refine' code_def ?Ab ?Bb ?Cb ?Db ?Eb ?Gb ?Hb ?Ib ?Fb ?Jb ?Kb ?Lb ?Mb ?_ ?Nb ?Ob ?Pb ?Qb; (case Gb | Hb => exact rfl); (case Ib => first | assumption | exact rfl); (case Ab | Bb => k_asm); (case Cb | Db | Eb => k_asm); (case Fb | Jb => k_is); (case Kb => ktr_room); (case Lb => first | exact BindsTo.of_eq rfl | exact binds_K (by k_in) rfl (by k_is) rfl rfl rfl); (case Qb => decide); (case Mb => exact locs rfl); (case Nb | Ob | Pb => exact rfl); k_whole; intro g' L' h' FG' F' N' B' X' T'; (try dsimp only); (try k_fold)))
  k_with "call ref" => (refine' Spec.useK (s_count w _ hl nh kh _ ?Ac) ?Bc ?Cc ?Dc ?Ec ?Fc ?Gc ?Hc ?Ic ?_ ?_; (case Bc | Cc | Dc | Ec | Fc | Gc => walk_at "u9"); (case Ac => first | assumption | walk_at "m9"); (case Hc => first | exact hd_i hd rfl | (show dp + 2 + _ < _; first | exact hd_i hd rfl | omega)); (case Ic => first | exact hu_i hu rfl | (show un + 4 + _ < _; first | exact hu_i hu rfl | omega)); rotate_left; exact OutE.none; intro K9 hK9; rintro v n h' tk' ⟨kc⟩ F' N'; any_goals (refine hK9 _ _ _ ?_))
  k_with "binaryOp Mult ref int" => (refine' mul4 ?Ad ?Bd ?Cd ?_; (case Ad | Bd => k_asm); (case Cd => walk_at "m9"); k_whole; intro D' h' F' N' l1; (first | k_lt l1 | replace l1 := allLt_of l1); (try k_sweep))
  k_with "call builtin:len" => (refine' KM.len_K (n := 4) ?Ae ?Be ?Ce ?De ?_; (case Ae => k_asm); (case Be => walk_at "m9"); (case Ce => rfl); (case De => omega); k_whole)
  refine Spec.intro ?_
  intro p loose mean mg mb dp un gd cn cs a ccd cl outer A₀ base h₀ L m hs9 gs9 ds9 ks9 os9 Q E B F X N T hk hd hu hret hout
  revert X; k_fill; intro X
  k_steps
  all_goals first
    | (refine' hret _ _ _ _ ⟨_, _, _, _, _, _, _, _, rfl, fun p hp => (.tail _ (.tail _ (.tail _ (.tail _ (.tail _ (.tail _ hp)))))), (.tail _ (.tail _ (.tail _ (.tail _ (.tail _ (.head _)))))), (.tail _ (.tail _ (.tail _ (.tail _ (.head _))))), (.tail _ (.tail _ (.tail _ (.head _)))), .head _, ⟨_, _, _, rfl, (.tail _ (.tail _ (.head _)))⟩, ?zWz9, ?l1z9, ?l2z9, ?l3z9, ?l4z9⟩ ?zFz9 ?zNz9; (case zFz9 => k_asm); (case zNz9 => assumption); (case zWz9 => exact ⟨⟨_, rfl⟩, rfl, ⟨_, rfl⟩, rfl⟩); all_goals (repeat (rename AllLt _ (_ :: _) => q9; dsimp +zetaDelta only [AllLt] at q9)); all_goals first | assumption | omega)
theorem s_GridW (w : World) (news : Led) (hl nh : Nat) (kh k kb : Tok) (hm : (hl, listOf #[.int 3 kh] nh) ∈ news) : Spec w 263 [.str (kindS true) k, .ref hl, .int 0 kb] 8 news (fun v n => GridN kh news true v n) (fun _ _ => False) := by
  k_with_none
  k_with "setAttr ref" => (refine tk_gen ?_; intro tk9; refine' tk_set ?Aa ?Ba ?Ca ?Da ?Ea ?Fa ?Ga ?Ha ?Ia ?Ja ?Ka ?La ?Ma ?_; (case Aa | Ba | Ca => k_asm); (case Da => k_inst); (case Ea => exact rfl); (case Fa | Ga => k_is); (case Ha | Ia => k_is); (case Ja => k_get); (case Ka => k_put); (case La => k_upd); (case Ma => exact Nat.le_of_ble_eq_true rfl); k_whole; intro h' tk9 F' N'; (try k_sweep))
  k_with "call ref" => (refine' call_cls ?Ab ?Bb ?Cb ?Db ?Eb ?Fb ?_; (case Ab | Bb | Cb => k_asm); (case Db | Eb | Fb => k_is); k_whole; intro x' d' h' F' N' l1 l2; (first | k_lt l1 | replace l1 := allLt_of l1); (try k_lt2 l2); (try k_sweep); (refine' code_def ?Ab ?Bb ?Cb ?Db ?Eb ?Gb ?Hb ?Ib ?Fb ?Jb ?Kb ?Lb ?Mb ?_ ?Nb ?Ob ?Pb ?Qb; (case Gb | Hb => exact rfl); (case Ib => first | assumption | exact rfl); (case Ab | Bb => k_asm); (case Cb | Db | Eb => k_asm); (case Fb | Jb => k_is); (case Kb => ktr_room); (case Lb => first | exact BindsTo.of_eq rfl | exact binds_K (by k_in) rfl (by k_is) rfl rfl rfl); (case Qb => decide); (case Mb => exact locs rfl); (case Nb | Ob | Pb => exact rfl); k_whole; intro g' L' h' FG' F' N' B' X' T'; (try dsimp only); (try k_fold)))
  k_with "call ref" => (refine' Spec.useK (s_count w _ hl nh kh _ ?Ac) ?Bc ?Cc ?Dc ?Ec ?Fc ?Gc ?Hc ?Ic ?_ ?_; (case Bc | Cc | Dc | Ec | Fc | Gc => walk_at "u9"); (case Ac => first | assumption | walk_at "m9"); (case Hc => first | exact hd_i hd rfl | (show dp + 2 + _ < _; first | exact hd_i hd rfl | omega)); (case Ic => first | exact hu_i hu rfl | (show un + 4 + _ < _; first | exact hu_i hu rfl | omega)); rotate_left; exact OutE.none; intro K9 hK9; rintro v n h' tk' ⟨kc⟩ F' N'; any_goals (refine hK9 _ _ _ ?_))
  k_with "binaryOp Mult ref int" => (refine' mul4 ?Ad ?Bd ?Cd ?_; (case Ad | Bd => k_asm); (case Cd => walk_at "m9"); k_whole; intro D' h' F' N' l1; (first | k_lt l1 | replace l1 := allLt_of l1); (try k_sweep))
  k_with "call builtin:len" => (refine' KM.len_K (n := 4) ?Ae ?Be ?Ce ?De ?_; (case Ae => k_asm); (case Be => walk_at "m9"); (case Ce => rfl); (case De => omega); k_whole)
  refine Spec.intro ?_
  intro p loose mean mg mb dp un gd cn cs a ccd cl outer A₀ base h₀ L m hs9 gs9 ds9 ks9 os9 Q E B F X N T hk hd hu hret hout
  revert X; k_fill; intro X
  k_steps
  all_goals first
    | (refine' hret _ _ _ _ ⟨_, _, _, _, _, _, _, _, rfl, fun p hp => (.tail _ (.tail _ (.tail _ (.tail _ (.tail _ hp))))), (.tail _ (.tail _ (.tail _ (.tail _ (.head _))))), (.tail _ (.tail _ (.tail _ (.head _)))), (.tail _ (.tail _ (.head _))), .head _, ⟨_, rfl⟩, ?zWz9, ?l1z9, ?l2z9, ?l3z9, ?l4z9⟩ ?zFz9 ?zNz9; (case zFz9 => k_asm); (case zNz9 => assumption); (case zWz9 => exact ⟨⟨_, rfl⟩, rfl, ⟨_, rfl⟩, rfl⟩); all_goals (repeat (rename AllLt _ (_ :: _) => q9; dsimp +zetaDelta only [AllLt] at q9)); all_goals first | assumption | omega)
theorem s_Grid (w : World) (news : Led) (b : Bool) (hl nh : Nat) (kh k kb : Tok) (hm : (hl, listOf #[.int 3 kh] nh) ∈ news) : Spec w 263 [.str (kindS b) k, .ref hl, .int 0 kb] 8 news (fun v n => GridN kh news b v n) (fun _ _ => False) := by
  cases b
  · exact s_GridA w news hl nh kh k kb hm
  · exact s_GridW w news hl nh kh k kb hm
theorem in_S0 {w : World} {A : Around} {E : Value → Shared → Prop} {s : Shared} {h₀ : Heap} {L a : Nat} {news : Led} {x : Str} {t : Tok} {f : Str → Option Value} {o : Obj} {Q : Value → Shared → Prop} (X : (K w.params).In h₀) (N : News h₀ L s.heap news) (hm : (a, o) ∈ news) (S : SaysO w f o) (e : f x = none)
    (h : Q (.bool false) { s with toks := s.toks + 1 }) : wpAny (MG w) A (compareOp .In (.str x t) (.ref a)) Q E s := in_S X N hm S (by rw [e]; exact h)
inductive DimN (w : World) (kh : Tok) (st : Led) (b : Ar) (aArr : Nat) (kvs : List (Str × Value)) (v : Value) (n : Led) : Prop | mk (e : v = .none) (s : ∀ p ∈ st, p.1 ≠ aArr → p ∈ n) (dg g hi it nG nH : Nat) (esG : List DictEntry) (u : Value) (oA : Obj) (a0 : (aArr, oA) ∈ n) (D : DictO w (stored kvs b.word (.ref g)) oA) (a1 : (dg, dictOf esG nG) ∈ n) (a2 : (g, instObj 263 dg) ∈ n) (a3 : (hi, listOf #[.int 3 kh] nH) ∈ n) (a4 : (it, listOf #[u, u, u, u] 0) ∈ n) (a5 : VR n u (if b.isT then .txt "" else .num 0)) (o : GridOk esG b.isT hi it) (l : ∀ p ∈ st, @LT.lt Nat _ p.1 dg) (l1 : dg < g) (l2 : g < hi) (l3 : hi < it)
theorem s_dim (w : World) (st : Led) (x d aN aArr aK aF aFl nW : Nat) (esW : List DictEntry) (hx : (x, instObj 181 d) ∈ st) (hd9 : (d, dictOf esW nW) ∈ st) (WW : WldOk esW aN aArr aK aF aFl) (hl nh : Nat) (kh : Tok) (hm : (hl, listOf #[.int 3 kh] nh) ∈ st) (hK : (aK, dictOf [] 0) ∈ st) (oA : Obj) (kvs : List (Str × Value)) (hA : (aArr, oA) ∈ st) (D : DictO w kvs oA) (b : Ar) (hno : valueAt kvs b.word = none) (hkv : kvs.length ≤ 1000) (hne : x ≠ aArr ∧ d ≠ aArr ∧ aK ≠ aArr ∧ hl ≠ aArr) (k : Tok) : Spec w 295 [.ref x, .str b.word k, .ref hl] 14 st (fun v n => DimN w kh st b aArr kvs v n) (fun _ _ => False) := by
  k_with_none
  k_with "call ref" => (refine' Spec.useK (s_check w _ x d aN aArr aK aF aFl nW esW ?Aa ?Ba WW hl nh kh ?Ca) ?Da ?Ea ?Fa ?Ga ?Ha ?Ia ?Ja ?Ka ?_ ?_; (case Da | Ea | Fa | Ga | Ha | Ia => walk_at "u9"); (case Aa | Ba | Ca => walk_at "m9"); (case Ja | Ka => walk_at "h9"); rotate_left; exact OutE.none; intro K9 hK9; rintro v n h' tk' ⟨rfl, rfl⟩ F' N'; any_goals (refine hK9 _ _ _ ?_))
  k_with "call ref" => (refine' Spec.useK (s_kon w _ aK _ (.a b) ?Ab) ?Bb ?Cb ?Db ?Eb ?Fb ?Gb ?Hb ?Ib ?_ ?_; (case Bb | Cb | Db | Eb | Fb | Gb => walk_at "u9"); (case Ab => walk_at "m9"); (case Hb | Ib => walk_at "h9"); rotate_left; exact OutE.none; intro K9 hK9; rintro v n h' tk' ⟨t9⟩ F' N'; any_goals (refine hK9 _ _ _ ?_))
  k_with "call ref" => (refine' Spec.useK (s_Grid w _ b.isT hl nh kh _ _ ?Ac) ?Bc ?Cc ?Dc ?Ec ?Fc ?Gc ?Hc ?Ic ?_ ?_; (case Bc | Cc | Dc | Ec | Fc | Gc => walk_at "u9"); (case Ac => walk_at "m9"); (case Hc | Ic => walk_at "h9"); rotate_left; exact OutE.none; intro K9 hK9; rintro v n h' tk' ⟨dg, g, hi, it, nG, nH, esG, u, rfl, hsub, y1, y2, y3, y4, y5, y6, y7, y8, y9, y10⟩ F' N'; have hA2 := hsub _ (.head _); have OFF : OwnOff (off n aArr) [aArr] := off_own; have hx2 : (x, instObj 181 d) ∈ off n aArr := off_mem.mpr ⟨hsub _ (.tail _ hx1), ne1⟩; have hd2 : (d, dictOf esW nW) ∈ off n aArr := off_mem.mpr ⟨hsub _ (.tail _ hd1), ne2⟩; have hlt : ∀ p ∈ st, @LT.lt Nat _ p.1 dg := (fun p hp => by (by_cases e : p.1 = aArr); (rw [e]; exact ktn_ltOf y7 _ (.head _)); (exact ktn_ltOf y7 _ (.tail _ (off_mem.mpr ⟨hp, e⟩)))); have hlA : @LT.lt Nat _ aArr dg := hlt _ hA; have TN := tup_ne N' hA2 (dictO_nt D); replace N' := news_off N' hA2; any_goals (refine hK9 _ _ _ ?_))
  k_with "compareOp In str ref" => (refine' in_S0 ?Ad ?Bd ?Cd ?Dd ?Ed ?_; (case Ad | Bd => k_asm); (case Cd => walk_at "m9"); (case Dd => exact dictO_says D); (case Ed => exact hno); k_whole)
  k_with "compareOp In str str" => (refine' in_S0 ?Ae ?Be ?Ce ?De ?Ee ?_; (case Ae | Be => k_asm); (case Ce => walk_at "m9"); (case De => exact dictO_says D); (case Ee => exact hno); k_whole)
  k_with "setItem ref" => (refine' setItem_D ?Af ?Bf ?Cf ?Df ?Ef ?_; (case Af | Bf => k_asm); (case Cf => k_updF); (case Df | Ef => assumption); k_whole; intro o9 h9 D9 F9 N9)
  refine Spec.intro ?_
  intro p loose mean mg mb dp un gd cn cs a ccd cl outer A₀ base h₀ L m hs9 gs9 ds9 ks9 os9 Q E B F X N T hk hd hu hret hout
  obtain ⟨ne1, ne2, ne3, ne4⟩ := hne
  have hx1 : (x, instObj 181 d) ∈ off st aArr := off_mem.mpr ⟨hx, ne1⟩
  have hd1 : (d, dictOf esW nW) ∈ off st aArr := off_mem.mpr ⟨hd9, ne2⟩
  have hK1 : (aK, dictOf [] 0) ∈ off st aArr := off_mem.mpr ⟨hK, ne3⟩
  have hm1 : (hl, listOf #[.int 3 kh] nh) ∈ off st aArr := off_mem.mpr ⟨hm, ne4⟩
  have hNO := N
  replace N := news_off N hA
  obtain ⟨kb, e1⟩ := WW.base; have e2 := WW.arrays; have e3 := WW.kinds
  revert X; k_fill; intro X
  refine wpAny_call ?_
  k_dflt ktr_enter
  k_steps
  all_goals first
    | (refine' hret _ _ _ _ ⟨rfl, fun p hp hn => .tail _ (off_mem.mpr ⟨hsub p (.tail _ (off_mem.mpr ⟨hp, hn⟩)), hn⟩), dg, g, hi, it, nG, nH, esG, u, o9, .head _, D9, .tail _ (off_mem.mpr ⟨y1, ?a1z9⟩), .tail _ (off_mem.mpr ⟨y2, ?a2z9⟩), .tail _ (off_mem.mpr ⟨y3, ?a3z9⟩), .tail _ (off_mem.mpr ⟨y4, ?a4z9⟩), y5.mono (fun p hp hc => .tail _ (off_mem.mpr ⟨hp, TN p hp hc⟩)), y6, hlt, y8, y9, y10⟩ ?zFz9 ?zNz9; (case zFz9 => k_asm); (case zNz9 => assumption); all_goals (refine neN ?_; dsimp only; omega))
section
section
variable {prog : Program} {w : World} {A : Around} {E : Value → Shared → Prop} {s : Shared} {C a : Addr}
variable {h : Heap} {g : Array GenState} {d : Drawn} {t : Nat} {os : OsState}
variable {nm q : Str} {N : Addr} {bs bm : List Value} {sn : List Str} {sub : List Value} {ab : Bool} {col : Option Bool} {dd : Option Addr} {k0 k1 k2 k3 k5 : Option Value} {B newId : String} {mN : Str → Option Value} {name : Str} {v : Value} {vs : Array Value} {di : Addr} {es : List DictEntry} {n : Nat}
theorem own_entry {tk : Tok} {Q : Fin → Shared → Prop} (FB : ExcAttrBase B bm) (hC : h.get? C = some (excClassObj nm q C N bs bm true sn sub ab col dd k0 k1 k2 k3 k5 newId)) (hn : h.Ns N mN) (hna : mN name = none) (hB : typeLookup (.type B) name = pure none)
    (hx : h.get? a = some (fldO C (some di) vs)) (hd : h.get? di = some (dictOf es n)) {e : DictEntry} {b : Bool} (hl : nsNameIn name.cps.size name.cps.toList es.toArray.toList false = (some e, b)) (hq : Q (.done (.ret e.val)) ⟨h, g, d, t, os⟩) :
    wpAny (model prog w) A (Builtin.«object.__getattribute__» ⟨[.ref a, .str name tk], []⟩) Q E ⟨h, g, d, t, os⟩ := by
  repeat (any_goals (first | assumption | with_reducible refine wpAny_loadPart_at hx ?_ | with_reducible refine wpAny_loadPart_at hd ?_ | (with_reducible refine wpAny_typeLookup_exc hC hn FB.mro hB ?_; rw [hna]) | wp_step))
  rw [hl]
  refine wpAny_pure ?_
  repeat (any_goals (first | assumption | wp_step))
  all_goals (refine wpAny_pure ?_)
theorem own_check {M : Model} {nameV : Value} {Q : Unit → Shared → Prop} (FB : ExcAttrBase B bm) (hC : h.get? C = some (excClassObj nm q C N bs bm true sn sub ab col dd k0 k1 k2 k3 k5 newId)) {o : Obj} (hx : h.get? a = some o) (hc : o.cls = .ref C) (hq : Q () ⟨h, g, d, t, os⟩) : wpAny M A (checkBuiltinCall "BaseException.__getattribute__" ⟨[.ref a, nameV], []⟩) Q E ⟨h, g, d, t, os⟩ := by
  have hk : builtinKind "BaseException.__getattribute__" = some .slot := by decide +kernel
  have hsplit : splitId "BaseException.__getattribute__" = some ("BaseException", "__getattribute__") := by decide +kernel
  have hcB : (Value.ref C :: bm).contains (.type "BaseException") = true := by rw [List.contains_cons, FB.hasBase, Bool.or_true]
  have ha := PySem.F.args_bexc_ga (.ref a) nameV
  simp only [checkBuiltinCall, hk, hsplit]
  refine wpAny_bind ?_
  · unfold isInstance
    repeat (first | (with_reducible refine wpAny_loadPart_at hx ?_; rw [hc]) | (with_reducible refine wpAny_isSubtype_exc hC ?_; rw [hcB]) | wp_step)
    exact hq
theorem own_by {tk : Tok} {fill expr : Bool} {Q : Value → Shared → Prop} (FB : ExcAttrBase B bm) (hC : h.get? C = some (excClassObj nm q C N bs bm true sn sub ab col dd k0 k1 k2 k3 k5 newId)) (hn : h.Ns N mN) (hga : mN "__getattribute__" = none) (hgt : mN "__getattr__" = none) (hna : mN name = none) (hB : typeLookup (.type B) name = pure none)
    (hx : h.get? a = some (fldO C (some di) vs)) (hd : h.get? di = some (dictOf es n)) {e : DictEntry} {b : Bool} (hl : nsNameIn name.cps.size name.cps.toList es.toArray.toList false = (some e, b)) (hv : handedIn e.val = true) (hq : Q e.val ⟨h, g, d, t, os⟩) :
    wpAny (model prog w) A (getAttrBy (.ref a) (.str name tk) fill expr) Q E ⟨h, g, d, t, os⟩ := by
  have f3 := FB.ga.bind (.ref a)
  have hx0 : (expr && onTheHeap (Value.builtin "BaseException.__getattribute__")) = false := by cases expr <;> rfl
  have hx2 : (Value.builtin "BaseException.__getattribute__" == Value.builtin "object.__getattribute__") = false := by decide +kernel
  have hx1 : (onTheHeap (Value.ref C) && Value.builtin "BaseException.__getattribute__" == Value.builtin "object.__getattribute__") = false := by rw [hx2]; rfl
  repeat (any_goals (first | assumption | with_reducible refine wpAny_loadPart_at hx ?_ | (with_reducible refine wpAny_typeLookup_exc hC hn FB.mro FB.ga.lookup ?_; rw [hga]) | (with_reducible refine wpAny_typeLookup_exc hC hn FB.mro FB.noGetattr ?_; rw [hgt]) | wp_step))
  refine codeAny_call_builtin FB.ga.plain PySem.F.entry_bexc_ga (own_check FB hC hx rfl (own_entry FB hC hn hna hB hx hd hl ?_))
  repeat (any_goals (first | assumption | wp_step))
  show wpAny _ _ (handedOut e.val) _ _ _
  rw [handedOut_of hv]
  exact wpAny_pure hq
theorem own_attr {expr : Bool} {Q : Value → Shared → Prop} (FB : ExcAttrBase B bm) (hC : h.get? C = some (excClassObj nm q C N bs bm true sn sub ab col dd k0 k1 k2 k3 k5 newId)) (hn : h.Ns N mN) (hga : mN "__getattribute__" = none) (hgt : mN "__getattr__" = none) (hna : mN name = none) (hB : typeLookup (.type B) name = pure none)
    (hx : h.get? a = some (fldO C (some di) vs)) (hd : h.get? di = some (dictOf es n)) {e : DictEntry} {b : Bool} (hl : nsNameIn name.cps.size name.cps.toList es.toArray.toList false = (some e, b)) (hv : handedIn e.val = true) (hq : Q e.val ⟨h, g, d, t + 1, os⟩) :
    wpAny (model prog w) A (getAttr (.ref a) name expr) Q E ⟨h, g, d, t, os⟩ := by
  unfold getAttr
  repeat (any_goals (first | assumption | with_reducible apply own_by FB hC hn hga hgt hna hB hx hd hl hv | wp_step))
end
theorem code_of {w : World} {A : Around} {E : Value → Shared → Prop} {s : Shared} {h₀ : Heap} {L : Addr} {m : Str → Option Value} {news : Led} {e di : Nat} {vs : Array Value} {c : Str} {told : Value} {k1 k2 k3 : Tok} {expr : Bool} {Q : Value → Shared → Prop} (F : Fr h₀ L s.heap m) (X : (K w.params).In h₀) (N : News h₀ L s.heap news)
    (he : (e, fldO 41 (some di) vs) ∈ news) (hd : (di, codeD w c told k1 k2 k3) ∈ news) (h : ∀ tk, Q (.str c k2) { s with toks := tk }) : wpAny (MG w) A (getAttr (.ref e) "code" expr) Q E s := by
  obtain ⟨hh, g, d, t, os⟩ := s
  have X7 := X.keeps F.keep
  have hN7 : hh.get? 40 = _ := X7 40 _ rfl
  exact own_attr (mN := hh.nsMap 40) PySem.F.attrBase_Exception (X7 41 _ rfl) (Heap.Ns.of_isNs (isNs_of_in X7 (by kernel_rfl))) (by unfold Heap.nsMap; rw [hN7]; rfl) (by unfold Heap.nsMap; rw [hN7]; rfl) (by unfold Heap.nsMap; rw [hN7]; rfl) (by rw [typeLookup_type, builtinLookup_eq_fast]; kernel_rfl) (N _ he).1 (N _ hd).1 (e := ⟨_, _, .str c k2⟩) (b := false) rfl rfl (h _)
end
section
section
variable {prog : Program} {w : World} {A₀ A : Around} {s : Shared} {base h₀ : Heap} {env : Env} {L : Addr} {m : Str → Option Value} {news : Led} {KF : Frag} {p : Program} {loose : List Str} {mean : ExcName → Option Value} {mg mb : Str → Option Value}
    {R : Result → Shared → Prop} {name qual : Str} {params : Arguments} {body : List Stmt} {scope : Scope} {dV kV doc pm cdv ct oc : Value} {an od : Option Addr} {osl : Array (Option Value)} {f : Addr} {args : Args} {binds : List (Str × Value)}
theorem enterX (B : Below A₀ base [] h₀) (F : Fr h₀ L s.heap m) (X₀ : KF.In h₀) (N : News h₀ L s.heap news) (T : Top p loose mean mg mb h₀) (hA : A.frames = some [env]) (hf : env.frame = some L) (hke : env.scope.kind = .function)
    (ho : KF.lookup f = some ⟨oc, od, .func (fnOf name qual params body scope dV kV doc pm an cdv ct), osl⟩) (hcd : codeIn KF cdv qual = true) (hroom : A.depth < recursionLimit)
    (hbind : BindsTo s (fnOf name qual params body scope dV kV doc pm an cdv ct) args binds) (hloc : ∀ y ∈ binds, scope.names.lookup y.1 = some .local)
    (h : ∀ g L' h₁, Fr h₀ L g m → Fr g L' h₁ (fun y => binds.reverse.lookup y) → News g L' h₁ news → Below A base [env] g → KF.In g → Top p loose mean mg mb g →
      wpAny (model prog w) (A.deeper (envOf qual scope L' f cdv)) (execs body (envOf qual scope L' f cdv))
        (fun fl s' => LeaveS0 ([env].filterMap (·.frame)) h₀ L m g R (match fl with | .ret v => v | _ => .none) s')
        (fun e s' => wpAny (model prog w) (A.deeper (envOf qual scope L' f cdv)) (leaving (envOf qual scope L' f cdv) e) (fun _ s'' => R (.error e) s'') (fun e' s'' => R (.error e') s'') s')
        { s with heap := h₁, toks := s.toks + binds.length })
    (hco : scope.isCoroutine = false) (hgen : scope.isGenerator = false) (hk : scope.kind = .function)
    (hcell : ∀ x ∈ scope.names, x.2 ≠ .cell) : codeAny (model prog w) A (.call (.ref f) args) R s := by
  have X := X₀.keeps F.keep
  have nm : ∀ b o, h₀.get? b = some o → b ∉ news.map (·.1) := fun b o e q => by
    obtain ⟨p, hp, rfl⟩ := List.mem_map.mp q
    rw [(N p hp).2.2] at e; cases e
  have st : h₀.StaysIn (hideAll s.heap (news.map (·.1))) := fun b o e => hideAll_get _ (F.keep b o e) (nm b o e)
  obtain ⟨oL, es, ep, hL, hLd, hLk, hLf⟩ := F.ns
  have nL : L ∉ news.map (·.1) := fun q => by
    obtain ⟨p, hp, e⟩ := List.mem_map.mp q
    exact (N p hp).2.1 e
  have hLg := hideAll_get (news.map (·.1)) hL nL
  have B₁ := pushX B F hf hke
  have B₂ : Below A base [env] (hideAll s.heap (news.map (·.1))) := ⟨hA, fun b o e => st b o (B.stays b o e), funFrames_hideAll B₁.frames fun env' he b hb hf' => by
    cases he with
    | head => rw [hf] at hf'; exact nL ((Option.some.inj hf' : L = b) ▸ hb)
    | tail _ he => cases he⟩
  refine codeAny_call_def (fd := fnOf name qual params body scope dV kV doc pm an cdv ct) (body := body) (binds := binds) hroom (X _ _ ho) rfl (T.nolimit.keeps F.keep) (codeRec_of X hcd) rfl hbind hcell hloc (fun h₁ hns hk₁ => ?_) hco hgen hk
  refine wpAny_mono (h _ s.heap.objs.size h₁ ⟨⟨oL, es, ep, hLg, hLd, hLk, hLf⟩, st, F.above⟩ ⟨hns, fun b o e => hk₁ b o (of_hideAll _ e), Nat.le_of_eq (hideAll_size _ _)⟩
    (fun p hp => ⟨hk₁ _ _ (N p hp).1, Nat.ne_of_lt (Heap.lt_size (N p hp).1), hideAll_none _ (List.mem_map_of_mem hp)⟩) B₂ (X₀.keeps st) (T.keeps st)) (fun fl s' hl => ?_) fun _ _ y => y
  obtain ⟨g', L', m', news', T', F', N', k⟩ := hl
  have nL₀ : h₀.get? L = none := kts_self F
  have mem : ∀ b, b ∈ [env].filterMap (·.frame) → b = L := fun b hb => by
    obtain ⟨x, hx, hx'⟩ := List.mem_filterMap.mp hb
    rw [List.mem_singleton.mp hx, hf] at hx'
    exact (Option.some.inj hx').symm
  obtain ⟨sl, hs⟩ := T'.up hLg
  refine k ⟨⟨_, es, ep, F'.keep _ _ hs, hLd, hLk, hLf⟩, fun b o e => F'.keep b o (T'.other b o (st b o e) fun q => by rw [mem b q, nL₀] at e; cases e), F.above⟩ fun p hp => ⟨(N' p hp).1, fun q => ?_, ?_⟩
  · have := (N' p hp).2.2; rw [q, hs] at this; cases this
  · cases q : h₀.get? p.1 with
    | none => rfl
    | some o =>
      obtain ⟨sl', hs'⟩ := T'.up (st _ _ q)
      have := (N' p hp).2.2
      rw [hs'] at this
      cases this
end
end
noncomputable def Spec0 (w : World) (f : Addr) (vs : List Value) (d : Nat) (news : Led) (Post : Value → Led → Prop) : Prop :=
  ∀ (p : Program) (loose : List Str) (mean : ExcName → Option Value) (mg mb : Str → Option Value) (dp un : Nat) (gd : Option (List Code)) (cn : Str) (cs : Scope) (a : Addr) (ccd : Value) (cl : List (Str × Addr)) (A₀ : Around) (h₀ : Heap) (L : Addr) (m : Str → Option Value) (s : Shared) (Q E : Value → Shared → Prop),
    Below A₀ h₀ [] h₀ → Fr h₀ L s.heap m → (K w.params).In h₀ → News h₀ L s.heap news → Top p loose mean mg mb h₀ → cs.kind = .function → dp + d < recursionLimit → un + 8 * d < cLine →
    OutV h₀ L m s Q Post →
    wpAny (model PySem.Challenge.rw_pf0018_01.row.prog w) (ktrTop dp un gd cn cs L a ccd cl []) (call (.ref f) vs) Q E s
theorem tail2 {h₀ h : Heap} {L : Addr} {a b : Addr × Obj} {n : Led} (N : News h₀ L h (a :: b :: n)) : News h₀ L h n := fun p hp => N p (.tail _ (.tail _ hp))
inductive CodeIs (P : Value → Led → Prop) (R : Str → Led → Prop) (v : Value) (n : Led) : Prop
  | ok (v0 : Value) (k : Tok) (h : P v0 n) (e : v = .str "" k)
  | bad (c : Str) (k : Tok) (h : R c n) (e : v = .str c k)
theorem t_code (w : World) (st : Led) (f1 d : Nat) (PV : Value → Led → Prop) (PE : Str → Led → Prop) (nm qual : Str) (params : Arguments) (body : Expr) (sc : Scope) (clos : List (Str × Addr)) (pm : Value) (c' : Addr) (ctv : Value) (hf1 : (f1, kla_obj nm qual params body sc clos pm c' ctv) ∈ st) (HW : Spec w f1 [] d st PV PE) :
    Spec0 w 792 [.ref f1] (d + 4) st (CodeIs PV PE) := by
  k_with_none
  k_with "call ref" => (refine' Spec.useK (HW) ?Aa ?Ba ?Ca ?Da ?Ea ?Fa ?Ga ?Ha ?_ ?_; (case Aa | Ba | Ca | Da | Ea | Fa => walk_at "u9"); (case Ga => first | exact hd_ok hd rfl | (show dp + 1 + _ < _; first | exact hd_ok hd rfl | omega)); (case Ha => first | exact hu_ok hu rfl | (show un + 3 + _ < _; first | exact hu_ok hu rfl | omega)); rotate_left; (intro c told k1 k2 k3 e di n h' tk' G hP F' R' U'); rotate_left; intro K9 hK9; intro v0 n h' tk' hP F' N'; any_goals (refine hK9 _ _ _ ?_))
  k_with "callWith ref" => (refine' callWith_F0 ?Ab ?_; (case Ab => exact FnAt.of (by k_asm) hf1); k_whole; try dsimp only [List.nil_append, List.cons_append])
  k_with "noteFrame ref" => (refine' caughtZ ?Ac ?Bc ?Cc ?Dc ?Ec ?Fc ?Gc ?Hc ?_; (case Ac | Bc => assumption); (case Cc | Dc => assumption); (case Ec | Fc => assumption); (case Gc => k_is); (case Hc => rfl); k_whole; intro h' g' vs tk' T' F' N' K' X' P'; (try dsimp only))
  k_with "getAttr ref" => (refine' code_of ?Ad ?Bd ?Cd ?Dd ?Ed ?_; (case Ad | Bd | Cd => k_asm); (case Dd => exact .head _); (case Ed => exact .tail _ (.head _)); k_whole; intro tk9)
  unfold Spec0
  intro p loose mean mg mb dp un gd cn cs a ccd cl A₀ h₀ L m s Q E B F X N T hk hd hu hret
  revert X; k_fill; intro X
  refine wpAny_call ?_
  (refine' enterX ?k1z9 ?k2z9 ?k3z9 ?k4z9 ?k5z9 ?kAz9 ?kFz9 ?kKz9 ?k6z9 ?k7z9 ?k8z9 ?k9z9 ?kBz9 ?_ ?c2z9 ?c3z9 ?c4z9 ?c5z9; (case kAz9 => exact rfl); (case kFz9 => exact rfl); (case kKz9 => assumption); (case k1z9 => assumption); (case k2z9 => k_asm); (case k3z9 => k_asm); (case k4z9 => k_asm); (case k5z9 => k_asm); (case k6z9 => k_is); (case k7z9 => k_is); (case k8z9 => ktr_room); (case k9z9 => exact BindsTo.of_eq rfl); (case c5z9 => decide); (case kBz9 => exact locs rfl); (case c2z9 => exact rfl); (case c3z9 => exact rfl); (case c4z9 => exact rfl); k_whole; intro g' L' h' FG' F' N' B' X' T'; (try dsimp only); (try k_fold))
  k_steps
  all_goals first
    | exact hret _ _ _ _ (.ok _ _ hP rfl) (by k_asm) (by k_asm)
    | exact hret _ _ _ _ (.bad _ _ hP rfl) (by k_asm) (tail2 (by assumption))
noncomputable def lam1 (clos : List (Str × Addr)) (pm : Value) (c' : Addr) (ctv : Value) : Obj := by
  refine' (fun (α : Prop) (_ : α) (k : Obj) => k) (lawSt = .FunctionDef _ _ [_, _, _, _, _, _, _, .For _ _ [_, .Assign _ (.Call _ [.Lambda ?p1z9 ?b1z9 ?s1z9 ?q1z9] _ _) _, .Assign _ (.Call _ [.Lambda ?p2z9 ?b2z9 ?s2z9 ?q2z9] _ _) _, _] _ _, _] _ _ _ _ _ _ _) ?hz9 (kla_obj (Str.ofString "<lambda>") (Str.ofString "law.<locals>.<lambda>") ?p1z9 ?b1z9 ?s1z9 clos pm c' ctv)
  case hz9 => exact rfl
noncomputable def lam2 (clos : List (Str × Addr)) (pm : Value) (c' : Addr) (ctv : Value) : Obj := by
  refine' (fun (α : Prop) (_ : α) (k : Obj) => k) (lawSt = .FunctionDef _ _ [_, _, _, _, _, _, _, .For _ _ [_, .Assign _ (.Call _ [.Lambda ?p1z9 ?b1z9 ?s1z9 ?q1z9] _ _) _, .Assign _ (.Call _ [.Lambda ?p2z9 ?b2z9 ?s2z9 ?q2z9] _ _) _, _] _ _, _] _ _ _ _ _ _ _) ?hz9 (kla_obj (Str.ofString "<lambda>") (Str.ofString "law.<locals>.<lambda>") ?p2z9 ?b2z9 ?s2z9 clos pm c' ctv)
  case hz9 => exact rfl
noncomputable abbrev cellO (v : Value) : Obj := { cls := .none, data := .cell (some v) }
theorem l_done (w : World) (bk lf : Nat) (σ : Sg) (left : List Int) (st : Led) (BB : Bo w bk lf σ left st) (hσ : σ.Ok) (hl : LOk left) (Ms : List Nat) (hMs : bk ∈ Ms ∧ lf ∈ Ms) (ω : Ord) (hω : ω.Ok) (t : Nat) (ho : OrdIs Ms st ω (.ref t)) :
    Spec w 785 [.ref bk, .ref t] 20 st (PAL w bk lf st (ω.does σ left)) (PLx RO.bad w bk lf σ st (ω.does σ left)) := by
  cases ω with
  | swap τ υ =>
    obtain ⟨t, k0, t1, t2, e, ht, h1, h2⟩ := ho
    cases e
    by_cases e : τ.isT = υ.isT
    · exact l_swap_eq w bk lf σ left st BB hσ hl Ms hMs τ υ hω.1 hω.2 t k0 t1 t2 ht h1 h2 _ rfl e.symm
    · exact l_swap_ne w bk lf σ left st BB hσ hl Ms hMs τ υ hω.1 hω.2 t k0 t1 t2 ht h1 h2 _ _ rfl rfl e
  | mid τ φ μ υ =>
    obtain ⟨t, k0, tg, tf, tt, vm, e, ht, h1, h2, h3, hm⟩ := ho
    cases e
    obtain ⟨o1, o2, o3, o4, o5, o6, o7⟩ := hω
    exact l_mid w bk lf σ left st BB hσ hl Ms hMs τ φ υ o1 o2 o3 o4 μ o5 o6 o7 t k0 tg tf tt vm ht h1 h2 h3 hm
theorem t_due (w : World) (bk lf : Nat) (σ : Sg) (left : List Int) (st : Led) (BB : Bo w bk lf σ left st) (hσ : σ.Ok) (hl : LOk left) (Ms : List Nat) (hMs : bk ∈ Ms ∧ lf ∈ Ms) (ω : Ord) (hω : ω.Ok) (t : Nat) (ho : OrdIs Ms st ω (.ref t))
    (cB cO : Nat) (oB oO : Obj) (hB : (cB, oB) ∈ st) (dB : oB.data = .cell (some (.ref bk))) (hO : (cO, oO) ∈ st) (dO : oO.data = .cell (some (.ref t))) (f1 c' : Nat) (pm ctv : Value) (oc : Obj) (vs9 : Array Value) (t9 : Tok) (hc9 : (c', oc) ∈ st) (hv9 : oc.data = .fields vs9) (hq9 : vs9[1]? = some (.str (Str.ofString "law.<locals>.<lambda>") t9)) (hf : (f1, lam1 [("order", cO), ("book", cB)] pm c' ctv) ∈ st) :
    Spec w f1 [] 24 st (PAL w bk lf st (ω.does σ left)) (PLx RO.bad w bk lf σ st (ω.does σ left)) := by
  k_with_none
  k_with "call ref" => (refine' Spec.useK (l_done w bk lf σ left st BB hσ hl Ms hMs ω hω t ho) ?Aa ?Ba ?Ca ?Da ?Ea ?Fa ?Ga ?Ha ?_ ?_; (case Aa | Ba | Ca | Da | Ea | Fa => walk_at "u9"); (case Ga => first | exact hd_ok hd rfl | (show dp + 1 + _ < _; first | exact hd_ok hd rfl | omega)); (case Ha => first | exact hu_ok hu rfl | (show un + 3 + _ < _; first | exact hu_ok hu rfl | omega)); rotate_left; (rintro c told k1 k2 k3 e di n h' tk' G ⟨l', hb, LL⟩ F' R' U'); rotate_left; intro K9 hK9; rintro v n h' tk' ⟨σ', l', hr, LL⟩ F' N'; any_goals (refine hK9 _ _ _ ?_))
  k_with "eval Name" => (refine' nameX_F ?Ab ?Bb ?Cb ?Db ?_ ?Eb ?Fb; (case Eb | Fb => rfl); (case Ab => k_asm); (case Bb => rfl); (case Cb => walk_at "m9"); (case Db => assumption); k_whole)
  refine Spec.intro ?_
  intro p loose mean mg mb dp un gd cn cs a ccd cl outer A₀ base h₀ L m hs9 gs9 ds9 ks9 os9 Q E B F X N T hk hd hu hret hout
  revert X; k_fill; intro X
  refine wpAny_call ?_
  (refine' kla_code ?k1z9 ?k2z9 ?k3z9 ?k4z9 ?k5z9 ?kAz9 ?kFz9 ?kKz9 ?k6z9 ?k7z9 ?k8z9 ?k9z9 ?kBz9 ?_ ?c2z9 ?c3z9 ?c4z9 ?c5z9; (case kAz9 => exact rfl); (case kFz9 => exact rfl); (case kKz9 => assumption); (case k1z9 => k_asm); (case k2z9 => k_asm); (case k3z9 => k_asm); (case k4z9 => k_asm); (case k5z9 => k_asm); (case k6z9 => exact hf); (case k7z9 => exact codeRec_news (by k_asm) hc9 hv9 hq9); (case k8z9 => ktr_room); (case k9z9 => exact rfl); (case c5z9 => decide); (case kBz9 => exact locs rfl); (case c2z9 => exact rfl); (case c3z9 => exact rfl); (case c4z9 => exact rfl); k_whole; intro g' L' h' FG' F' N' B' X' T'; (try dsimp only); (try k_fold))
  k_steps
  all_goals first
    | exact hret _ _ _ _ ⟨σ', l', hr, LL⟩ (by k_asm) (by k_asm)
    | exact hout _ _ _ _ _ _ _ _ _ _ _ ⟨l', hb, LL⟩ (by assumption) (by assumption) (by assumption)
theorem t_act_s (w : World) (A : Ad) (σ : Sg) (left : List Int) (q : Nat) (O : A.Ok w) (st : Led) (W : Wd A st) (M : Mu w A σ left q st) (hq : q ≤ 9970) (hσ : σ.Ok) (hl : LOk left) (τ υ : T) (hω : τ.Tgt ∧ υ.Tgt) (t : Nat) (k0 : Tok) (t1 t2 : Nat) (ht : (t, tupOf [.str "SWAP" k0, .ref t1, .ref t2] 0) ∈ st) (h1 : Tr A.muts st τ (.ref t1)) (h2 : Tr A.muts st υ (.ref t2)) (cO cR : Nat) (oO oR : Obj) (hO : (cO, oO) ∈ st) (dO : oO.data = .cell (some (.ref t))) (hR : (cR, oR) ∈ st) (dR : oR.data = .cell (some (.ref A.run))) (f1 c' : Nat) (pm ctv : Value) (oc : Obj) (vs9 : Array Value) (t9 : Tok) (hc9 : (c', oc) ∈ st) (hv9 : oc.data = .fields vs9) (hq9 : vs9[1]? = some (.str (Str.ofString "law.<locals>.<lambda>") t9)) (hf : (f1, lam2 [("run", cR), ("order", cO)] pm c' ctv) ∈ st) : Spec w f1 [] 40 st (PA w A (q + 10) st (swapS σ τ υ left)) (PEx RO.bad w A σ (q + 10) st (swapS σ τ υ left)) := by
  k_with_none
  k_with "call ref" => (refine' Spec.useK (s_swap w A σ left q O st W M hq hσ hl τ υ hω.1 hω.2 t k0 t1 t2 ht h1 h2) ?Aa ?Ba ?Ca ?Da ?Ea ?Fa ?Ga ?Ha ?_ ?_; (case Aa | Ba | Ca | Da | Ea | Fa => walk_at "u9"); (case Ga => first | exact hd_ok hd rfl | (show dp + 1 + _ < _; first | exact hd_ok hd rfl | omega)); (case Ha => first | exact hu_ok hu rfl | (show un + 3 + _ < _; first | exact hu_ok hu rfl | omega)); rotate_left; (rintro c told k1 k2 k3 e di n h' tk' G ⟨l', hb, LL⟩ F' R' U'); rotate_left; intro K9 hK9; rintro v n h' tk' ⟨σ', l', hr, LL⟩ F' N'; any_goals (refine hK9 _ _ _ ?_))
  k_with "eval Name" => (refine' nameX_F ?Ab ?Bb ?Cb ?Db ?_ ?Eb ?Fb; (case Eb | Fb => rfl); (case Ab => k_asm); (case Bb => rfl); (case Cb => walk_at "m9"); (case Db => assumption); k_whole)
  refine Spec.intro ?_
  intro p loose mean mg mb dp un gd cn cs a ccd cl outer A₀ base h₀ L m hs9 gs9 ds9 ks9 os9 Q E B F X N T hk hd hu hret hout
  revert X; k_fill; intro X
  refine wpAny_call ?_
  (refine' kla_code ?k1z9 ?k2z9 ?k3z9 ?k4z9 ?k5z9 ?kAz9 ?kFz9 ?kKz9 ?k6z9 ?k7z9 ?k8z9 ?k9z9 ?kBz9 ?_ ?c2z9 ?c3z9 ?c4z9 ?c5z9; (case kAz9 => exact rfl); (case kFz9 => exact rfl); (case kKz9 => assumption); (case k1z9 => k_asm); (case k2z9 => k_asm); (case k3z9 => k_asm); (case k4z9 => k_asm); (case k5z9 => k_asm); (case k6z9 => exact hf); (case k7z9 => exact codeRec_news (by k_asm) hc9 hv9 hq9); (case k8z9 => ktr_room); (case k9z9 => exact rfl); (case c5z9 => decide); (case kBz9 => exact locs rfl); (case c2z9 => exact rfl); (case c3z9 => exact rfl); (case c4z9 => exact rfl); k_whole; intro g' L' h' FG' F' N' B' X' T'; (try dsimp only); (try k_fold))
  k_steps
  all_goals first
    | exact hret _ _ _ _ ⟨σ', l', hr, LL.le (by walk_at "q9")⟩ (by k_asm) (by k_asm)
    | exact hout _ _ _ _ _ _ _ _ _ _ _ ⟨l', hb, LL.le (by walk_at "q9")⟩ (by assumption) (by assumption) (by assumption)
theorem t_act_m (w : World) (A : Ad) (σ : Sg) (left : List Int) (q : Nat) (O : A.Ok w) (st : Led) (W : Wd A st) (M : Mu w A σ left q st) (hq : q ≤ 9970) (hσ : σ.Ok) (hl : LOk left) (τ φ υ : T) (o1 : τ.Tgt) (o2 : τ.isT = true) (o3 : φ.Ok) (o4 : φ.numb) (o6 : υ.Ok) (o7 : υ.short) (t : Nat) (k0 : Tok) (tg tf tt : Nat) (μ : Option T) (o5 : ∀ κ, μ = some κ → κ.Ok ∧ κ.numb) (vm : Value) (ht : (t, tupOf [.str "MIDSET" k0, .ref tg, .ref tf, vm, .ref tt] 0) ∈ st) (h1 : Tr A.muts st τ (.ref tg)) (h2 : Tr A.muts st φ (.ref tf)) (h3 : Tr A.muts st υ (.ref tt)) (hm : ManyIs A.muts st μ vm) (cO cR : Nat) (oO oR : Obj) (hO : (cO, oO) ∈ st) (dO : oO.data = .cell (some (.ref t))) (hR : (cR, oR) ∈ st) (dR : oR.data = .cell (some (.ref A.run))) (f1 c' : Nat) (pm ctv : Value) (oc : Obj) (vs9 : Array Value) (t9 : Tok) (hc9 : (c', oc) ∈ st) (hv9 : oc.data = .fields vs9) (hq9 : vs9[1]? = some (.str (Str.ofString "law.<locals>.<lambda>") t9)) (hf : (f1, lam2 [("run", cR), ("order", cO)] pm c' ctv) ∈ st) : Spec w f1 [] 40 st (PA w A (q + 10) st (midS σ τ φ μ υ left)) (PEx RO.bad w A σ (q + 10) st (midS σ τ φ μ υ left)) := by
  k_with_none
  k_with "call ref" => (refine' Spec.useK (s_mid w A σ left q O st W M hq hσ hl τ φ υ o1 o2 o3 o4 μ o5 o6 o7 t k0 tg tf tt vm ht h1 h2 h3 hm) ?Aa ?Ba ?Ca ?Da ?Ea ?Fa ?Ga ?Ha ?_ ?_; (case Aa | Ba | Ca | Da | Ea | Fa => walk_at "u9"); (case Ga => first | exact hd_ok hd rfl | (show dp + 1 + _ < _; first | exact hd_ok hd rfl | omega)); (case Ha => first | exact hu_ok hu rfl | (show un + 3 + _ < _; first | exact hu_ok hu rfl | omega)); rotate_left; (rintro c told k1 k2 k3 e di n h' tk' G ⟨l', hb, LL⟩ F' R' U'); rotate_left; intro K9 hK9; rintro v n h' tk' ⟨σ', l', hr, LL⟩ F' N'; any_goals (refine hK9 _ _ _ ?_))
  k_with "eval Name" => (refine' nameX_F ?Ab ?Bb ?Cb ?Db ?_ ?Eb ?Fb; (case Eb | Fb => rfl); (case Ab => k_asm); (case Bb => rfl); (case Cb => walk_at "m9"); (case Db => assumption); k_whole)
  refine Spec.intro ?_
  intro p loose mean mg mb dp un gd cn cs a ccd cl outer A₀ base h₀ L m hs9 gs9 ds9 ks9 os9 Q E B F X N T hk hd hu hret hout
  revert X; k_fill; intro X
  refine wpAny_call ?_
  (refine' kla_code ?k1z9 ?k2z9 ?k3z9 ?k4z9 ?k5z9 ?kAz9 ?kFz9 ?kKz9 ?k6z9 ?k7z9 ?k8z9 ?k9z9 ?kBz9 ?_ ?c2z9 ?c3z9 ?c4z9 ?c5z9; (case kAz9 => exact rfl); (case kFz9 => exact rfl); (case kKz9 => assumption); (case k1z9 => k_asm); (case k2z9 => k_asm); (case k3z9 => k_asm); (case k4z9 => k_asm); (case k5z9 => k_asm); (case k6z9 => exact hf); (case k7z9 => exact codeRec_news (by k_asm) hc9 hv9 hq9); (case k8z9 => ktr_room); (case k9z9 => exact rfl); (case c5z9 => decide); (case kBz9 => exact locs rfl); (case c2z9 => exact rfl); (case c3z9 => exact rfl); (case c4z9 => exact rfl); k_whole; intro g' L' h' FG' F' N' B' X' T'; (try dsimp only); (try k_fold))
  k_steps
  all_goals first
    | exact hret _ _ _ _ ⟨σ', l', hr, LL⟩ (by k_asm) (by k_asm)
    | exact hout _ _ _ _ _ _ _ _ _ _ _ ⟨l', hb, LL⟩ (by assumption) (by assumption) (by assumption)
theorem t_act (w : World) (A : Ad) (σ : Sg) (left : List Int) (q : Nat) (O : A.Ok w) (st : Led) (W : Wd A st) (M : Mu w A σ left q st) (hq : q ≤ 9970) (hσ : σ.Ok) (hl : LOk left) (ω : Ord) (hω : ω.Ok) (t : Nat) (ho : OrdIs A.muts st ω (.ref t)) (cO cR : Nat) (oO oR : Obj) (hO : (cO, oO) ∈ st) (dO : oO.data = .cell (some (.ref t))) (hR : (cR, oR) ∈ st) (dR : oR.data = .cell (some (.ref A.run))) (f1 c' : Nat) (pm ctv : Value) (oc : Obj) (vs9 : Array Value) (t9 : Tok) (hc9 : (c', oc) ∈ st) (hv9 : oc.data = .fields vs9) (hq9 : vs9[1]? = some (.str (Str.ofString "law.<locals>.<lambda>") t9)) (hf : (f1, lam2 [("run", cR), ("order", cO)] pm c' ctv) ∈ st) : Spec w f1 [] 40 st (PA w A (q + 10) st (ω.does σ left)) (PEx RO.bad w A σ (q + 10) st (ω.does σ left)) := by
  cases ω with
  | swap τ υ =>
    obtain ⟨t, k0, t1, t2, e, ht, h1, h2⟩ := ho
    cases e
    exact t_act_s w A σ left q O st W M hq hσ hl τ υ hω t k0 t1 t2 ht h1 h2 cO cR oO oR hO dO hR dR f1 c' pm ctv oc vs9 t9 hc9 hv9 hq9 hf
  | mid τ φ μ υ =>
    obtain ⟨t, k0, tg, tf, tt, vm, e, ht, h1, h2, h3, hm⟩ := ho
    cases e
    obtain ⟨o1, o2, o3, o4, o5, o6, o7⟩ := hω
    exact t_act_m w A σ left q O st W M hq hσ hl τ φ υ o1 o2 o3 o4 o6 o7 t k0 tg tf tt μ o5 vm ht h1 h2 h3 hm cO cR oO oR hO dO hR dR f1 c' pm ctv oc vs9 t9 hc9 hv9 hq9 hf
section
noncomputable abbrev lamQ : Str := Str.ofString "law.<locals>.<lambda>"
inductive LamC (D : List Nat) (st : Led) (v : Value) : Prop | mk (c' : Nat) (oc : Obj) (vs : Array Value) (t : Tok) (e : v = .ref c') (m : (c', oc) ∈ st) (n : c' ∉ D) (d : oc.data = .fields vs) (q : vs[1]? = some (.str lamQ t))
inductive TabI (D : List Nat) (st : Led) : Prop | mk (ps : Array Value) (a : (799, tabObj ps) ∈ st) (b : TriplesOk ps.toList) (c : ∀ pos v, codeAmong pos ps.toList = some v → LamC D st v)
theorem among_app {pos : Pos} {a b : Int} {c v : Value} (l : List Value) (h : TriplesOk l) (e : codeAmong pos (l ++ [rawInt a, rawInt b, c]) = some v) : codeAmong pos l = some v ∨ v = c := by
  fun_induction TriplesOk l with
  | case1 =>
    simp only [List.nil_append, codeAmong, rawInt] at e
    split at e
    · exact .inr (Option.some.inj e).symm
    · cases e
  | case2 i t j u x r ih =>
    simp only [List.cons_append, codeAmong] at e ⊢
    split at e
    · rename_i hc; rw [if_pos hc]; exact .inl e
    · rename_i hc; rw [if_neg hc]; exact ih h e
  | case3 => exact h.elim
theorem triples_app {a b : Int} {c : Value} (l : List Value) (h : TriplesOk l) : TriplesOk (l ++ [rawInt a, rawInt b, c]) := by
  fun_induction TriplesOk l with
  | case1 => trivial
  | case2 i t j u x r ih => exact ih h
  | case3 => exact h.elim
theorem TabI.keep {D Ms : List Nat} {st n : Led} (x : TabI D st) (k : KeepM Ms st n) (h : 799 ∉ Ms) (hs : ∀ a ∈ Ms, a ∈ D) : TabI D n := by
  obtain ⟨ps, a, b, c⟩ := x
  refine ⟨ps, k.1 _ a h, b, fun pos v e => ?_⟩
  obtain ⟨c', oc, vs, t, h1, h2, h3, h4, h5⟩ := c pos v e
  exact ⟨c', oc, vs, t, h1, k.1 _ h2 (fun hm => h3 (hs _ hm)), h3, h4, h5⟩
section
variable {M : Model} {A : Around} {E : Value → Shared → Prop} {s : Shared} {h₀ : Heap} {L a : Addr} {m mg mb : Str → Option Value} {cn : Str} {cs : Scope} {cl : List (Str × Addr)} {st : Led}
  {p : Program} {loose : List Str} {mean : ExcName → Option Value} {params : Arguments} {body : Expr} {scope : Scope} {pos : Pos} {clos : List (Str × Addr)} {D : List Nat}
theorem mk_lam {Q : Value → Shared → Prop} (F : Fr h₀ L s.heap m) (N : News h₀ L s.heap st) (T : Top p loose mean mg mb h₀) (C : CodeHd h₀ 801 799) (I : TabI D st) (hDl : ∀ a ∈ D, ∃ o, (a, o) ∈ st) (hD : 799 ∈ D)
    (hdef : defaultsOf params (envX cn cs L a (.ref 801) cl) = ([], [])) (hq : cn ++ ".<locals>." ++ "<lambda>" = lamQ) (hcl : closureFor scope (envX cn cs L a (.ref 801) cl) = pure clos)
    (h : ∀ (f c' : Nat) oc vs t pm ctv h' tk n, Fr h₀ L h' m → News h₀ L h' n → KeepM [799] st n → TabI D n → (f, kla_obj "<lambda>" lamQ params body scope clos pm c' ctv) ∈ n → (c', oc) ∈ n → oc.data = .fields vs → vs[1]? = some (.str lamQ t) → f ∉ D → c' ∉ D → Q (.ref f) { s with heap := h', toks := tk }) :
    wpAny M A (eval (.Lambda params body scope pos) (envX cn cs L a (.ref 801) cl)) Q E s := by
  have hmQ : ∀ {x : Nat}, (∀ q ∈ st, q.1 < x) → x ∉ D := fun hx hm => by
    obtain ⟨o, ho⟩ := hDl _ hm
    exact Nat.lt_irrefl _ (hx _ ho)
  obtain ⟨ps, i1, i2, i3⟩ := id I
  have hnt : (tabObj ps).cls ≠ .type "tuple" := by intro h; cases h
  refine kla_eval hdef ?_
  show wpAny M A (makeFunction "<lambda>" (cn ++ ".<locals>." ++ "<lambda>") params (.expr body) scope (envX cn cs L a (.ref 801) cl) [] [] [] pos pos.line) Q E s
  rw [hq]
  cases e : codeAmong pos ps.toList with
  | none =>
    have N1 := news_off N i1
    have TN := tup_ne N i1 hnt
    refine kla_nest (g := fun o => (799, o) :: off st 799) F N1 T C rfl (UpdF.head fun p hp => (off_mem.mp hp).2) i2 e hcl fun f c' oc vs t ctv h' tk F' N' d1 d2 l1 l2 => ?_
    have lt : ∀ q ∈ st, q.1 < c' := fun q hq => by
      by_cases e : q.1 = 799
      · rw [e]; exact l1 _ (.head _)
      · exact l1 _ (.tail _ (off_mem.mpr ⟨hq, e⟩))
    have c9 := hmQ lt
    have f9 : f ∉ D := hmQ fun q hq => Nat.lt_trans (lt q hq) l2
    have kp : KeepM [799] st ((f, kla_obj "<lambda>" lamQ params body scope clos ((mg "__name__").getD .none) c' ctv) :: (c', oc) :: (799, tabObj (ps ++ #[rawInt pos.line, rawInt pos.col, .ref c'])) :: off st 799) :=
      ⟨fun p hp hn => .tail _ (.tail _ (.tail _ (off_mem.mpr ⟨hp, fun e => hn (by rw [e]; simp)⟩))), fun p hp hc => .tail _ (.tail _ (.tail _ (off_mem.mpr ⟨hp, TN p hp hc⟩)))⟩
    refine h f c' oc vs t _ ctv h' tk _ F' N' kp ⟨_, .tail _ (.tail _ (.head _)), ?_, fun pos' v e' => ?_⟩ (.head _) (.tail _ (.head _)) d1 d2 f9 c9
    · rw [Array.toList_append]; exact triples_app _ i2
    · rw [Array.toList_append] at e'
      rcases among_app _ i2 e' with e' | e'
      · obtain ⟨c2, oc2, vs2, t2, h1, h2, h3, h4, h5⟩ := i3 _ _ e'
        exact ⟨c2, oc2, vs2, t2, h1, kp.1 _ h2 (fun hm => h3 (by have e9 : c2 = 799 := List.mem_singleton.mp hm; rw [e9]; exact hD)), h3, h4, h5⟩
      · exact ⟨c', oc, vs, t, e', .tail _ (.head _), c9, d1, d2⟩
  | some v =>
    obtain ⟨c', oc, vs, t, rfl, h2, h3, h4, h5⟩ := i3 _ _ e
    refine kla_hit F N T C rfl i1 i2 e hcl fun f ctv h' tk F' N' l1 => ?_
    exact h f c' oc vs t _ ctv h' tk _ F' N' KeepM.cons (I.keep KeepM.cons (Ms := []) (by simp) (by simp)) (.head _) (.tail _ h2) h4 h5 (hmQ l1) h3
end
noncomputable def muts5 (A : Ad) (bk lf tp cO : Nat) : List Nat := bk :: lf :: tp :: cO :: 799 :: A.muts
structure Fx (A : Ad) (bk lf tp l2 cB cO cR : Nat) : Prop where
  nd : (muts5 A bk lf tp cO).Nodup
  obj : ∀ p ∈ A.objs, p.1 ∉ muts5 A bk lf tp cO
  l2 : l2 ∉ muts5 A bk lf tp cO
  cB : cB ∉ muts5 A bk lf tp cO
  cR : cR ∉ muts5 A bk lf tp cO
structure LI (w : World) (A : Ad) (bk lf tp l2 cB cO cR : Nat) (σ : Sg) (left : List Int) (q : Nat) (c : Int) (st : Led) : Prop where
  wd : Wd A st
  mu : Mu w A σ left q st
  bo : Bo w bk lf σ left st
  tap : Tp tp l2 c st
  cb : CellIs cB (.ref bk) st
  cr : CellIs cR (.ref A.run) st
  co : CellAny cO st
  tab : TabI (muts5 A bk lf tp cO) st
section
variable {w : World} {A : Ad} {bk lf tp l2 cB cO cR : Nat} {σ σ' : Sg} {left left' : List Int} {q q' : Nat} {c c' : Int} {st n : Led} {Ms : List Nat}
theorem Fx.ne (X : Fx A bk lf tp l2 cB cO cR) : (∀ a ∈ A.muts, a ≠ bk ∧ a ≠ lf ∧ a ≠ tp ∧ a ≠ cO ∧ a ≠ 799) ∧ bk ≠ lf ∧ bk ≠ tp ∧ bk ≠ cO ∧ bk ≠ 799 ∧ lf ≠ tp ∧ lf ≠ cO ∧ lf ≠ 799 ∧ tp ≠ cO ∧ tp ≠ 799 ∧ cO ≠ 799 := by
  have z := X.nd
  simp only [muts5, List.nodup_cons, List.mem_cons, not_or] at z
  obtain ⟨⟨a1, a2, a3, a4, a5⟩, ⟨b1, b2, b3, b4⟩, ⟨c1, c2, c3⟩, ⟨d1, d2⟩, e1, -⟩ := z
  exact ⟨fun a ha => ⟨fun e => a5 (e ▸ ha), fun e => b4 (e ▸ ha), fun e => c3 (e ▸ ha), fun e => d2 (e ▸ ha), fun e => e1 (e ▸ ha)⟩, a1, a2, a3, a4, b1, b2, b3, c1, c2, d1⟩
theorem Mu.keepM (M : Mu w A σ left q st) (k : KeepM Ms st n) (h : ∀ a ∈ A.muts, a ∉ Ms) : Mu w A σ left q n := M.map (fun p hp hm => k.1 p hp (h _ hm)) fun _ _ z => z.mono k.2
theorem Bo.keepM (B : Bo w bk lf σ left st) (k : KeepM Ms st n) (h1 : bk ∉ Ms) (h2 : lf ∉ Ms) : Bo w bk lf σ left n := B.keep (fun p hp h => k.1 p hp (by rcases h with h | h <;> (rw [h]; assumption))) k.2
theorem Tp.keepM (T : Tp tp l2 c st) (k : KeepM Ms st n) (h1 : tp ∉ Ms) (h2 : l2 ∉ Ms) : Tp tp l2 c n := by
  obtain ⟨⟨kc, n, a⟩, ⟨vs, xs, k9, b, d, d2⟩, e, f⟩ := T; exact ⟨⟨kc, n, k.1 _ a h1⟩, ⟨vs, xs, k9, k.1 _ b h2, d, d2⟩, e, f⟩
structure LR (A : Ad) (bk lf tp l2 cB cO cR : Nat) (st : Led) : Prop where
  wd : Wd A st
  cb : CellIs cB (.ref bk) st
  cr : CellIs cR (.ref A.run) st
theorem LR.keepM (R : LR A bk lf tp l2 cB cO cR st) (X : Fx A bk lf tp l2 cB cO cR) (k : KeepM Ms st n) (h : ∀ a ∈ Ms, a ∈ muts5 A bk lf tp cO) : LR A bk lf tp l2 cB cO cR n :=
  ⟨fun p hp => k.1 p (R.wd p hp) fun hm => X.obj p hp (h _ hm), R.cb.up fun hm => k.1 _ hm fun hm => X.cB (h _ hm), R.cr.up fun hm => k.1 _ hm fun hm => X.cR (h _ hm)⟩
theorem LI.r (I : LI w A bk lf tp l2 cB cO cR σ left q c st) : LR A bk lf tp l2 cB cO cR st := ⟨I.wd, I.cb, I.cr⟩
theorem LI.has (I : LI w A bk lf tp l2 cB cO cR σ left q c st) : Has (muts5 A bk lf tp cO) st := by
  obtain ⟨⟨oN, vI, vJ, vS, a1, -⟩, b, ⟨vs, n1, c1, -⟩, ⟨us, n2, d1, -⟩⟩ := I.mu
  obtain ⟨_, _, _, _, _, e0, -⟩ := b .A
  obtain ⟨_, _, _, _, _, e1, -⟩ := b .W
  obtain ⟨⟨oB, xs, f1, -⟩, ⟨vl, nl, f2, -⟩⟩ := I.bo
  obtain ⟨kc, nt, f3⟩ := I.tap.tape
  obtain ⟨o4, v, f4, -⟩ := I.co
  obtain ⟨ps, f5, -⟩ := I.tab
  intro a ha
  simp only [muts5, Ad.muts, List.mem_cons, List.not_mem_nil, or_false] at ha
  rcases ha with rfl | rfl | rfl | rfl | rfl | rfl | rfl | rfl | rfl | rfl
  · exact ⟨_, f1⟩
  · exact ⟨_, f2⟩
  · exact ⟨_, f3⟩
  · exact ⟨_, f4⟩
  · exact ⟨_, f5⟩
  · exact ⟨_, a1⟩
  · exact ⟨_, e0⟩
  · exact ⟨_, e1⟩
  · exact ⟨_, d1⟩
  · exact ⟨_, c1⟩
theorem Has.keepM {Ns : List Nat} (H : Has Ns st) (k : KeepM Ms st n) (H2 : Has Ms n) : Has Ns n := fun a ha => by
  by_cases e : a ∈ Ms
  · exact H2 a e
  · obtain ⟨o, ho⟩ := H a ha
    exact ⟨o, k.1 _ ho e⟩
end
end
section
noncomputable def codeR : RO → Str | .ok _ _ => "" | .bad c _ => c
noncomputable def sgR (σ : Sg) : RO → Sg | .ok σ' _ => σ' | .bad _ _ => σ
noncomputable def lfR : RO → List Int | .ok _ l => l | .bad _ l => l
noncomputable def RPl.left : RPl → List Int | .ok _ l => l | .bad _ l => l
theorem pl_left {σ : Sg} {τ : T} {l : List Int} (h : LOk l) : LOk (pl σ τ l).left := by
  cases τ with
  | name p => exact h
  | item b τ =>
    have z := ev_left (σ := σ) (τ := τ) h
    show LOk (plI b (ev σ τ l)).left
    cases e : ev σ τ l with
    | bad c l' => rw [e] at z; exact z
    | ok y l' =>
      rw [e] at z
      cases y with
      | txt s => exact z
      | num i =>
        show LOk (RPl.left (if 0 ≤ i ∧ i ≤ 3 then .ok (.a b i) l' else .bad "BS" l'))
        split <;> exact z
  | _ => exact h
theorem swap_ok {σ : Sg} {τ υ : T} {l : List Int} (hσ : σ.Ok) (hl : LOk l) : (sgR σ (swapS σ τ υ l)).Ok ∧ LOk (lfR (swapS σ τ υ l)) := by
  unfold swapS
  by_cases h : τ.isT ≠ υ.isT
  · rw [if_pos h]; exact ⟨hσ, hl⟩
  · rw [if_neg h]
    have h : τ.isT = υ.isT := by simpa using h
    have z1 := pl_left (σ := σ) (τ := τ) hl
    cases e1 : pl σ τ l with
    | bad c l' => rw [e1] at z1; exact ⟨hσ, z1⟩
    | ok p l1 =>
      obtain ⟨k1, k2, k3⟩ := pl_ok hl e1
      have z2 := pl_left (σ := σ) (τ := υ) k3
      show (sgR σ (match pl σ υ l1 with | .bad c l => RO.bad c l | .ok r l => .ok ((σ.put (σ.at r) p).put (σ.at p) r) l)).Ok ∧ LOk (lfR (match pl σ υ l1 with | .bad c l => RO.bad c l | .ok r l => .ok ((σ.put (σ.at r) p).put (σ.at p) r) l))
      cases e2 : pl σ υ l1 with
      | bad c l' => rw [e2] at z2; exact ⟨hσ, z2⟩
      | ok r l2 =>
        obtain ⟨j1, j2, j3⟩ := pl_ok k3 e2
        have e : p.isT = r.isT := by rw [k2, j2, h]
        refine ⟨?_, j3⟩
        refine Sg.put_ok (Sg.put_ok hσ k1 ?_) j1 ?_
        · rw [e]; exact Sg.at_ok hσ j1
        · rw [← e]; exact Sg.at_ok hσ k1
theorem midE_ok {σ : Sg} {p : Pl} {b m : Int} {r : Rs} (hσ : σ.Ok) (hp : p.Ok) (ht : p.isT = true) (hr : LOk r.left) : (sgR σ (midE σ p b m r)).Ok ∧ LOk (lfR (midE σ p b m r)) := by
  cases r with
  | bad c l => exact ⟨hσ, hr⟩
  | ok y l =>
    cases y with
    | num i => exact ⟨hσ, hr⟩
    | txt x =>
      obtain ⟨old, e, hlen⟩ := at_txt hσ hp ht
      unfold midE
      rw [e]
      show (sgR σ (if m < 0 ∨ b < 1 ∨ (old.length : Int) < b then RO.bad "FC" l else .ok (σ.put (.txt (midL old x b m)) p) l)).Ok ∧ LOk (lfR (if m < 0 ∨ b < 1 ∨ (old.length : Int) < b then RO.bad "FC" l else .ok (σ.put (.txt (midL old x b m)) p) l))
      split
      · exact ⟨hσ, hr⟩
      · exact ⟨Sg.put_ok hσ hp (by rw [ht]; show (midL old x b m).length ≤ 4; rw [midL_len]; exact hlen), hr⟩
theorem mid_ok {σ : Sg} {τ φ υ : T} {μ : Option T} {l : List Int} (hσ : σ.Ok) (hl : LOk l) (ht : τ.isT = true) : (sgR σ (midS σ τ φ μ υ l)).Ok ∧ LOk (lfR (midS σ τ φ μ υ l)) := by
  unfold midS
  have z1 := pl_left (σ := σ) (τ := τ) hl
  cases e1 : pl σ τ l with
  | bad c l' => rw [e1] at z1; exact ⟨hσ, z1⟩
  | ok p l1 =>
    obtain ⟨k1, k2, k3⟩ := pl_ok hl e1
    show (sgR σ (midB σ p μ υ (ev σ φ l1))).Ok ∧ LOk (lfR (midB σ p μ υ (ev σ φ l1)))
    have z2 := ev_left (σ := σ) (τ := φ) k3
    cases e2 : ev σ φ l1 with
    | bad c l' => rw [e2] at z2; exact ⟨hσ, z2⟩
    | ok y l2 =>
      rw [e2] at z2
      have k4 : LOk l2 := z2
      cases y with
      | txt s => exact ⟨hσ, k4⟩
      | num b =>
        show (sgR σ (midM σ p b υ (evO σ μ l2))).Ok ∧ LOk (lfR (midM σ p b υ (evO σ μ l2)))
        have z3 : LOk (evO σ μ l2).left := by
          cases μ with
          | none => exact k4
          | some μ => exact ev_left k4
        cases e3 : evO σ μ l2 with
        | bad c l' => rw [e3] at z3; exact ⟨hσ, z3⟩
        | ok y l3 =>
          rw [e3] at z3
          have k5 : LOk l3 := z3
          cases y with
          | txt s => exact ⟨hσ, k5⟩
          | num m => exact midE_ok hσ k1 (by rw [k2, ht]) (ev_left k5)
theorem does_ok {σ : Sg} {ω : Ord} {l : List Int} (hω : ω.Ok) (hσ : σ.Ok) (hl : LOk l) : (sgR σ (ω.does σ l)).Ok ∧ LOk (lfR (ω.does σ l)) := by
  cases ω with
  | swap τ υ => exact swap_ok hσ hl
  | mid τ φ μ υ => exact mid_ok hσ hl hω.2.1
theorem Tr.less {Ms Ns : List Nat} {st : Led} (hs : ∀ a ∈ Ns, a ∈ Ms) : ∀ {τ : T} {v : Value}, Tr Ms st τ v → Tr Ns st τ v
  | .whole _, _, h => h
  | .text _, _, h => h
  | .name _, _, h => h
  | .fn, _, ⟨t, k1, k2, l, nl, e, a, b, c⟩ => ⟨t, k1, k2, l, nl, e, a, b, fun h => c (hs _ h)⟩
  | .neg _, _, h => h
  | .item b τ, _, ⟨t, k1, k2, l, nl, u, e, a, b', c, d⟩ => ⟨t, k1, k2, l, nl, u, e, a, b', fun h => c (hs _ h), Tr.less hs d⟩
theorem OrdIs.less {Ms Ns : List Nat} {st : Led} (hs : ∀ a ∈ Ns, a ∈ Ms) {ω : Ord} {v : Value} (h : OrdIs Ms st ω v) : OrdIs Ns st ω v := by
  cases ω with
  | swap τ υ => obtain ⟨t, k0, t1, t2, e, ht, h1, h2⟩ := h; exact ⟨t, k0, t1, t2, e, ht, h1.less hs, h2.less hs⟩
  | mid τ φ μ υ =>
    obtain ⟨t, k0, tg, tf, tt, vm, e, ht, h1, h2, h3, hm⟩ := h
    refine ⟨t, k0, tg, tf, tt, vm, e, ht, h1.less hs, h2.less hs, h3.less hs, ?_⟩
    cases μ with
    | none => exact hm
    | some μ => exact Tr.less hs hm
theorem OrdIs.keep {Ms Ns : List Nat} {st n : Led} (K : KeepM Ns st n) (hs : ∀ a ∈ Ns, a ∈ Ms) {ω : Ord} {v : Value} (h : OrdIs Ms st ω v) : OrdIs Ms n ω v := by
  cases ω with
  | swap τ υ => obtain ⟨t, k0, t1, t2, e, ht, h1, h2⟩ := h; exact ⟨t, k0, t1, t2, e, K.2 _ ht rfl, h1.keep K hs, h2.keep K hs⟩
  | mid τ φ μ υ =>
    obtain ⟨t, k0, tg, tf, tt, vm, e, ht, h1, h2, h3, hm⟩ := h
    refine ⟨t, k0, tg, tf, tt, vm, e, K.2 _ ht rfl, h1.keep K hs, h2.keep K hs, h3.keep K hs, ?_⟩
    cases μ with
    | none => exact hm
    | some μ => exact Tr.keep K hs hm
theorem OrdIs.ref {Ms : List Nat} {st : Led} {ω : Ord} {v : Value} (h : OrdIs Ms st ω v) : ∃ t, v = .ref t := by
  cases ω with
  | swap τ υ => obtain ⟨t, k0, t1, t2, e, -⟩ := h; exact ⟨t, e⟩
  | mid τ φ μ υ => obtain ⟨t, k0, tg, tf, tt, vm, e, -⟩ := h; exact ⟨t, e⟩
noncomputable def KeepT (Ms : List Nat) (st n : Led) : Prop := (∀ p ∈ st, p.1 ∉ Ms → p ∈ n) ∧ ∀ p ∈ st, IsTup p.2 → p ∈ n
theorem KeepT.cell {h₀ h : Heap} {L : Addr} {st : Led} {c : Nat} {o o' : Obj} {v : Option Value} (N : News h₀ L h st) (hm : (c, o) ∈ st) (hd : o.data = .cell v) : KeepT [c] st ((c, o') :: off st c) :=
  ⟨fun p hp hn => .tail _ (off_mem.mpr ⟨hp, fun e => hn (by rw [e]; simp)⟩), fun p hp ht => .tail _ (off_mem.mpr ⟨hp, fun e => by
    have h1 := (N p hp).1
    rw [e, (N _ hm).1] at h1
    have z : o = p.2 := Option.some.inj h1
    obtain ⟨-, a, k, h2⟩ := ht
    rw [← z, hd] at h2
    cases h2⟩)⟩
theorem Tr.keepT {Ms Ns : List Nat} {st n : Led} (K : KeepT Ns st n) (hs : ∀ a ∈ Ns, a ∈ Ms) {τ : T} : ∀ {v : Value}, Tr Ms st τ v → Tr Ms n τ v := by
  induction τ with
  | whole => intro v h; obtain ⟨t, k1, k2, e, a⟩ := h; exact ⟨t, k1, k2, e, K.2 _ a ⟨rfl, _, _, rfl⟩⟩
  | text => intro v h; obtain ⟨t, k1, k2, e, a⟩ := h; exact ⟨t, k1, k2, e, K.2 _ a ⟨rfl, _, _, rfl⟩⟩
  | name => intro v h; obtain ⟨t, k1, k2, e, a⟩ := h; exact ⟨t, k1, k2, e, K.2 _ a ⟨rfl, _, _, rfl⟩⟩
  | fn => intro v h; obtain ⟨t, k1, k2, l, nl, e, a, b, c⟩ := h; exact ⟨t, k1, k2, l, nl, e, K.2 _ a ⟨rfl, _, _, rfl⟩, K.1 _ b (fun h => c (hs _ h)), c⟩
  | neg => intro v h; obtain ⟨t, k1, t2, k2, k3, e, a, b⟩ := h; exact ⟨t, k1, t2, k2, k3, e, K.2 _ a ⟨rfl, _, _, rfl⟩, K.2 _ b ⟨rfl, _, _, rfl⟩⟩
  | item b τ ih => intro v h; obtain ⟨t, k1, k2, l, nl, u, e, a, b', c, d⟩ := h; exact ⟨t, k1, k2, l, nl, u, e, K.2 _ a ⟨rfl, _, _, rfl⟩, K.1 _ b' (fun h => c (hs _ h)), c, ih d⟩
theorem OrdIs.keepT {Ms Ns : List Nat} {st n : Led} (K : KeepT Ns st n) (hs : ∀ a ∈ Ns, a ∈ Ms) {ω : Ord} {v : Value} (h : OrdIs Ms st ω v) : OrdIs Ms n ω v := by
  cases ω with
  | swap τ υ => obtain ⟨t, k0, t1, t2, e, ht, h1, h2⟩ := h; exact ⟨t, k0, t1, t2, e, K.2 _ ht ⟨rfl, _, _, rfl⟩, h1.keepT K hs, h2.keepT K hs⟩
  | mid τ φ μ υ =>
    obtain ⟨t, k0, tg, tf, tt, vm, e, ht, h1, h2, h3, hm⟩ := h
    refine ⟨t, k0, tg, tf, tt, vm, e, K.2 _ ht ⟨rfl, _, _, rfl⟩, h1.keepT K hs, h2.keepT K hs, h3.keepT K hs, ?_⟩
    cases μ with
    | none => exact hm
    | some μ => exact Tr.keepT K hs hm
section
variable {w : World} {A : Ad} {bk lf tp l2 cB cO cR : Nat} {σ σ' : Sg} {left left' : List Int} {q q' : Nat} {c c' : Int} {st n : Led} {Ms : List Nat}
theorem Mu.keepT (M : Mu w A σ left q st) (k : KeepT Ms st n) (h : ∀ a ∈ A.muts, a ∉ Ms) : Mu w A σ left q n := M.map (fun p hp hm => k.1 p hp (h _ hm)) fun _ _ z => z.up k.2
theorem Bo.keepT (B : Bo w bk lf σ left st) (k : KeepT Ms st n) (h1 : bk ∉ Ms) (h2 : lf ∉ Ms) : Bo w bk lf σ left n := by
  obtain ⟨⟨o, xs, a, ⟨b1, es, ep, b2, b3, b4, b5⟩, c⟩, ⟨vs, k9, d, e⟩⟩ := B
  refine ⟨⟨o, xs, k.1 _ a h1, ⟨b1, es, ep, b2, b3, fun x hx => ?_, b5⟩, c⟩, ⟨vs, k9, k.1 _ d h2, e⟩⟩
  have z := b4 x hx
  revert z
  generalize x.1 = y
  cases y with
  | s x => exact id
  | p x i => rintro ⟨a, k1, k2, e, m⟩; exact ⟨a, k1, k2, e, k.2 _ m ⟨rfl, _, _, rfl⟩⟩
theorem Tp.keepT (T : Tp tp l2 c st) (k : KeepT Ms st n) (h1 : tp ∉ Ms) (h2 : l2 ∉ Ms) : Tp tp l2 c n := by
  obtain ⟨⟨kc, n, a⟩, ⟨vs, xs, k9, b, d, d2⟩, e, f⟩ := T; exact ⟨⟨kc, n, k.1 _ a h1⟩, ⟨vs, xs, k9, k.1 _ b h2, d, d2⟩, e, f⟩
theorem TabI.keepT {D : List Nat} (x : TabI D st) (k : KeepT Ms st n) (h : 799 ∉ Ms) (hs : ∀ a ∈ Ms, a ∈ D) : TabI D n := by
  obtain ⟨ps, a, b, c⟩ := x
  refine ⟨ps, k.1 _ a h, b, fun pos v e => ?_⟩
  obtain ⟨c', oc, vs, t, h1, h2, h3, h4, h5⟩ := c pos v e
  exact ⟨c', oc, vs, t, h1, k.1 _ h2 (fun hm => h3 (hs _ hm)), h3, h4, h5⟩
theorem LR.keepT (R : LR A bk lf tp l2 cB cO cR st) (X : Fx A bk lf tp l2 cB cO cR) (k : KeepT Ms st n) (h : ∀ a ∈ Ms, a ∈ muts5 A bk lf tp cO) : LR A bk lf tp l2 cB cO cR n :=
  ⟨fun p hp => k.1 p (R.wd p hp) fun hm => X.obj p hp (h _ hm), R.cb.up fun hm => k.1 _ hm fun hm => X.cB (h _ hm), R.cr.up fun hm => k.1 _ hm fun hm => X.cR (h _ hm)⟩
theorem LI.stepM (I : LI w A bk lf tp l2 cB cO cR σ left q c st) (X : Fx A bk lf tp l2 cB cO cR) (k : KeepM Ms st n) (hs : ∀ a ∈ Ms, a ∈ muts5 A bk lf tp cO)
    (mu : (∀ a ∈ A.muts, a ∉ Ms) ∧ σ' = σ ∧ left' = left ∧ q' = q ∨ Mu w A σ' left' q' n) (bo : (bk ∉ Ms ∧ lf ∉ Ms) ∧ σ' = σ ∧ left' = left ∨ Bo w bk lf σ' left' n) (tap : tp ∉ Ms ∧ c' = c ∨ Tp tp l2 c' n) (co : cO ∉ Ms ∨ CellAny cO n) (tab : 799 ∉ Ms ∨ TabI (muts5 A bk lf tp cO) n) :
    LI w A bk lf tp l2 cB cO cR σ' left' q' c' n := by
  have R := I.r.keepM X k hs
  refine ⟨R.wd, ?_, ?_, ?_, R.cb, R.cr, ?_, ?_⟩
  · rcases mu with ⟨h, rfl, rfl, rfl⟩ | h
    · exact I.mu.keepM k h
    · exact h
  · rcases bo with ⟨⟨h1, h2⟩, rfl, rfl⟩ | h
    · exact I.bo.keepM k h1 h2
    · exact h
  · rcases tap with ⟨h, rfl⟩ | h
    · exact I.tap.keepM k h fun hm => X.l2 (hs _ hm)
    · exact h
  · rcases co with h | h
    · obtain ⟨o, v, a, b⟩ := I.co; exact ⟨o, v, k.1 _ a h, b⟩
    · exact h
  · rcases tab with h | h
    · exact I.tab.keep k h hs
    · exact h
end
end
noncomputable def lawT : List Stmt × Scope := by
  refine' (fun (α : Prop) (_ : α) (k : List Stmt × Scope) => k) (lawSt = .FunctionDef _ _ [_, _, _, _, _, _, _, .For _ _ ?bodyz9 _ _, _] _ _ _ ?scz9 _ _ _) ?hz9 (?bodyz9, ?scz9)
  case hz9 => exact rfl
noncomputable abbrev turnM (M : Str → Option Value) (tv du co : Option Value) : Str → Option Value := fun y => if y = "turn" then tv else if y = "due" then du else if y = "code" then co else M y
theorem turnM_eq {M m' : Str → Option Value} (h : ∀ y : Str, y ≠ "turn" → y ≠ "due" → y ≠ "code" → m' y = M y) : m' = turnM M (m' "turn") (m' "due") (m' "code") := funext fun y => by
  show m' y = if y = "turn" then _ else if y = "due" then _ else if y = "code" then _ else M y
  by_cases h1 : y = "turn"
  · rw [if_pos h1, h1]
  rw [if_neg h1]
  by_cases h2 : y = "due"
  · rw [if_pos h2, h2]
  rw [if_neg h2]
  by_cases h3 : y = "code"
  · rw [if_pos h3, h3]
  rw [if_neg h3]
  exact h y h1 h2 h3
theorem Spec0.use {w : World} {p : Program} {loose : List Str} {mean : ExcName → Option Value} {mg mb : Str → Option Value} {dp un : Nat} {gd : Option (List Code)} {cn : Str} {cs : Scope} {a : Addr} {ccd : Value} {cl : List (Str × Addr)} {A₀ : Around} {h₀ : Heap} {L : Addr} {m : Str → Option Value} {s : Shared} {Q E : Value → Shared → Prop}
    {f : Addr} {vs : List Value} {d : Nat} {news : Led} {Post : Value → Led → Prop} (H : Spec0 w f vs d news Post)
    (B : Below A₀ h₀ [] h₀) (F : Fr h₀ L s.heap m) (X : (K w.params).In h₀) (N : News h₀ L s.heap news) (T : Top p loose mean mg mb h₀) (hk : cs.kind = .function) (hd : dp + d < recursionLimit) (hu : un + 8 * d < cLine)
    (ret : OutV h₀ L m s Q Post) :
    wpAny (model PySem.Challenge.rw_pf0018_01.row.prog w) (ktrTop dp un gd cn cs L a ccd cl []) (call (.ref f) vs) Q E s := H _ _ _ _ _ _ _ _ _ _ _ _ _ _ _ _ _ _ _ _ B F X N T hk hd hu ret
theorem TurnFr {h₀ h : Heap} {L : Addr} {M : Str → Option Value} {a b tv du co : Option Value} (F : Fr h₀ L h (fun y => if y = "code" then a else if y = "due" then b else turnM M tv du co y)) : Fr h₀ L h (turnM M tv b a) := by
  have z : (fun y : Str => if y = "code" then a else if y = "due" then b else turnM M tv du co y) = turnM M tv b a := funext fun y => by
    show (if y = "code" then a else if y = "due" then b else if y = "turn" then tv else if y = "due" then du else if y = "code" then co else M y) = if y = "turn" then tv else if y = "due" then b else if y = "code" then a else M y
    by_cases h1 : y = "code"
    · subst h1; rfl
    rw [if_neg h1]
    by_cases h2 : y = "due"
    · subst h2; rfl
    rw [if_neg h2, if_neg h2, if_neg h1, if_neg h1, if_neg h2]
  exact z ▸ F
theorem le_trans9 {a b : Int} (h : a ≤ b) (h0 : 0 ≤ a) : 0 ≤ a ∧ a ≤ b := ⟨h0, h⟩
theorem has_cell {D : List Nat} {n : Led} {c : Nat} {o' : Obj} (H : Has D n) : Has D ((c, o') :: off n c) := H.up fun p hp => by
  by_cases e : p.1 = c
  · exact ⟨o', by rw [e]; exact .head _⟩
  · exact ⟨p.2, .tail _ (off_mem.mpr ⟨hp, e⟩)⟩
theorem has_tab {D : List Nat} {n : Led} (h : TabI D n) : Has [799] n := fun a ha => by
  obtain ⟨ps, h1, -⟩ := h
  rw [List.mem_singleton.mp ha]
  exact ⟨_, h1⟩
theorem has_bo {w : World} {bk lf : Nat} {σ : Sg} {left : List Int} {n : Led} (h : Bo w bk lf σ left n) : Has [bk, lf] n := fun a ha => by
  obtain ⟨⟨o, xs, h1, -⟩, ⟨vs, k, h2, -⟩⟩ := h
  rcases List.mem_cons.mp ha with rfl | ha
  · exact ⟨_, h1⟩
  · rw [List.mem_singleton.mp ha]; exact ⟨_, h2⟩
theorem due_of {w : World} {bk lf : Nat} {σ : Sg} {r : RO} {st n : Led} {v : Value} (h : CodeIs (PAL w bk lf st r) (PLx RO.bad w bk lf σ st r) v n) : ∃ k, v = .str (codeR r) k ∧ LB w bk lf (sgR σ r) (lfR r) st n := by
  rcases h with ⟨v0, k, ⟨σ', l', rfl, h⟩, rfl⟩ | ⟨c, k, ⟨l', rfl, h⟩, rfl⟩
  · exact ⟨k, rfl, h⟩
  · exact ⟨k, rfl, h⟩
theorem act_of {w : World} {A : Ad} {σ : Sg} {q : Nat} {r : RO} {st n : Led} {v : Value} (h : CodeIs (PA w A q st r) (PEx RO.bad w A σ q st r) v n) : ∃ k, v = .str (codeR r) k ∧ Left w A (sgR σ r) (lfR r) q st n := by
  rcases h with ⟨v0, k, ⟨σ', l', rfl, h⟩, rfl⟩ | ⟨c, k, ⟨l', rfl, h⟩, rfl⟩
  · exact ⟨k, rfl, h⟩
  · exact ⟨k, rfl, h⟩
theorem law_turn (w : World) (A : Ad) (O : A.Ok w) (bk lf tp l2 L : Nat) (X : Fx A bk lf tp l2 (L + 1) (L + 1 + 1) (L + 1 + 1 + 1)) (p : Program) (loose : List Str) (mean : ExcName → Option Value) (mg mb : Str → Option Value) (dp un : Nat) (gd : Option (List Code)) (a : Addr) (A₀ : Around) (h₀ : Heap) (M : Str → Option Value) (s : Shared) (E : Value → Shared → Prop)
    (hM1 : M "tape" = some (.ref tp)) (hM2 : M "world" = some (.ref A.wld)) (B : Below A₀ h₀ [] h₀) (Xk : (K w.params).In h₀) (T : Top p loose mean mg mb h₀) (C : CodeHd h₀ 801 799) (hd : dp + 60 < recursionLimit) (hu : un + 8 * 60 < cLine)
    (σ : Sg) (left : List Int) (q : Nat) (c : Int) (st : Led) (I : LI w A bk lf tp l2 (L + 1) (L + 1 + 1) (L + 1 + 1 + 1) σ left q c st) (hq : q ≤ 9000) (hc : 0 ≤ c ∧ c ≤ 500) (hσ : σ.Ok) (hl : LOk left) (tv du co : Option Value) (I9 : Nat) (it : Obj) (hI9 : (I9, it) ∈ st) (hI9n : I9 ∉ muts5 A bk lf tp (L + 1 + 1))
    (F : Fr h₀ L s.heap (turnM M tv du co)) (N : News h₀ L s.heap st) (Q : Flow → Shared → Prop)
    (hQ : ∀ σ' left' c' h' tk tv' du' co' n, Fr h₀ L h' (turnM M tv' du' co') → News h₀ L h' n → (I9, it) ∈ n → LI w A bk lf tp l2 (L + 1) (L + 1 + 1) (L + 1 + 1 + 1) σ' left' (q + 10) c' n → 0 ≤ c' ∧ c' ≤ c + 20 → σ'.Ok → LOk left' → Q .next { s with heap := h', toks := tk }) :
    wpAny (model PySem.Challenge.rw_pf0018_01.row.prog w) (ktrTop dp un gd (Str.ofString "law") lawT.2 L a (.ref 801) (cellsFrom (L + 1) lawT.2.names []) []) (execs lawT.1 (envX (Str.ofString "law") lawT.2 L a (.ref 801) (cellsFrom (L + 1) lawT.2.names []))) Q E s := by
  k_with_none
  k_with "call ref" => (refine' Spec.useK (l_stands w A _ _ (q + 10) O n6 R6.wd mu6 bk lf bo6 hok.1) ?Aa ?Ba ?Ca ?Da ?Ea ?Fa ?Ga ?Ha ?_ ?_; (case Aa | Ba | Ca | Da | Ea | Fa => walk_at "u9"); (case Ga => first | exact hd_le hd rfl | (show dp + _ < _; omega)); (case Ha => first | exact hu_le hu rfl | (show un + _ < _; omega)); rotate_left; exact OutE.none; intro K9 hK9; rintro v n7 h' tk' ⟨rfl, k7'⟩ F' N'; have k7 : KeepM [] n6 n7 := ⟨fun p hp _ => k7' p hp, fun p hp _ => k7' p hp⟩; have R7 := (R6).keepM X k7 m_no; have mu7 := (mu6).keepM k7 mu_no; have bo7 := (bo6).keepM k7 bk_no lf_no; have tap7 := (tap6).keepM k7 tp_no (fun h => X.l2 (m_no _ h)); have tab7 := (tab6).keep k7 ta_no m_no; have co7 := k7.1 _ (co6) co_no; have itm7 := k7.1 _ (itm6) (fun h => hI9n (m_no _ h)); any_goals (refine hK9 _ _ _ ?_))
  k_with "call ref" => (refine' Spec0.use (t_code w n5 f5 40 _ _ _ _ _ _ _ _ _ _ _ hf5 (t_act w A σ left q O n5 R5.wd mu5 ?Ab hσ hl ω hωk t (om5.less mu_D) (L + 1 + 1) (L + 1 + 1 + 1) _ oR5 co5 ?Bb hR5 dR5 f5 c5 pm5 ctv5 oc5 vs5 t5 hc5 hv5 hq5 hf5)) ?Cb ?Db ?Eb ?Fb ?Gb ?Hb ?Ib ?Jb ?_; (case Cb | Db | Eb | Fb | Gb | Hb => walk_at "u9"); (case Bb => assumption); (case Ab => walk_at "q9"); (case Ib => first | exact hd_le hd rfl | (show dp + _ < _; omega)); (case Jb => first | exact hu_le hu rfl | (show un + _ < _; omega)); rintro v n6 h' tk' hP F' N'; obtain ⟨kd6, rfl, LL6⟩ := act_of hP; have k6 := LL6.keep.m; have mu6 := LL6.mu; have R6 := (R5).keepM X k6 m_mu; have bo6 := (bo5).keepM k6 bk_mu lf_mu; have tap6 := (tap5).keepM k6 tp_mu (fun h => X.l2 (m_mu _ h)); have tab6 := (tab5).keep k6 ta_mu m_mu; have om6 := (om5).keep k6 m_mu; have co6 := k6.1 _ (co5) co_mu; have itm6 := k6.1 _ (itm5) (fun h => hI9n (m_mu _ h)); obtain ⟨oR6, hR6, dR6⟩ := R6.cr; obtain ⟨oB6, hB6, dB6⟩ := R6.cb; have hok := does_ok hωk hσ hl)
  k_with "call ref" => (refine' Spec0.use (t_code w n3 f3 24 _ _ _ _ _ _ _ _ _ _ _ hf3 (t_due w bk lf σ left n3 bo3 hσ hl (muts5 A bk lf tp (L + 1 + 1)) hMs ω hωk t om3 (L + 1) (L + 1 + 1) oB3 _ hB3 dB3 co3 ?Ac f3 c3 pm3 ctv3 oc3 vs3 t3 hc3 hv3 hq3 hf3)) ?Bc ?Cc ?Dc ?Ec ?Fc ?Gc ?Hc ?Ic ?_; (case Bc | Cc | Dc | Ec | Fc | Gc => walk_at "u9"); (case Ac => assumption); (case Hc => first | exact hd_le hd rfl | (show dp + _ < _; omega)); (case Ic => first | exact hu_le hu rfl | (show un + _ < _; omega)); rintro v n4 h' tk' hP F' N'; obtain ⟨kd4, rfl, LB4⟩ := due_of hP; have k4 := LB4.keep; have bo4 := LB4.bo; have R4 := (R3).keepM X k4 m_bo; have mu4 := (mu3).keepM k4 mu_bo; have tap4 := (tap3).keepM k4 tp_bo (fun h => X.l2 (m_bo _ h)); have tab4 := (tab3).keep k4 ta_bo m_bo; have om4 := (om3).keep k4 m_bo; have co4 := k4.1 _ (co3) co_bo; have itm4 := k4.1 _ (itm3) (fun h => hI9n (m_bo _ h)); have has4 := Has.keepM has3 k4 (has_bo bo4))
  k_with "call ref" => (refine' Spec.useK (t_order w tp l2 c st I.tap ?Ad (muts5 A bk lf tp (L + 1 + 1)) I.has (List.mem_of_getElem? (i := 2) rfl)) ?Bd ?Cd ?Dd ?Ed ?Fd ?Gd ?Hd ?Id ?_ ?_; (case Bd | Cd | Dd | Ed | Fd | Gd => walk_at "u9"); (case Ad => walk_at "q9"); (case Hd => first | exact hd_le hd rfl | (show dp + _ < _; omega)); (case Id => first | exact hu_le hu rfl | (show un + _ < _; omega)); rotate_left; exact OutE.none; intro K9 hK9; rintro v n h' tk' ⟨c2, ⟨ω, hω, hωk⟩, hc2, TL1⟩ F' N'; obtain ⟨t, rfl⟩ := hω.ref; have k1 := TL1.keep; have R1 := (R0).keepM X k1 m_tp; have mu1 := (mu0).keepM k1 mu_tp; have bo1 := (bo0).keepM k1 bk_tp lf_tp; have tab1 := (tab0).keep k1 ta_tp m_tp; have itm1 := k1.1 _ (itm0) (fun h => hI9n (m_tp _ h)); have tap1 := TL1.tap; have has1 := TL1.has I.has; obtain ⟨o0, v0, co0, dco0⟩ := I.co; have co1 := k1.1 _ co0 co_tp; have KT := fun o' => KeepT.cell (o' := o') N' co1 dco0; have R2 := fun o' => R1.keepT X (KT o') m_co; have mu2 := fun o' => mu1.keepT (KT o') mu_co; have bo2 := fun o' => bo1.keepT (KT o') bk_co lf_co; have tap2 := fun o' => tap1.keepT (KT o') tp_co (fun h => X.l2 (m_co _ h)); have tab2 := fun o' => tab1.keepT (KT o') ta_co m_co; have om2 := fun o' => hω.keepT (KT o') m_co; have itm2 := fun o' => (KT o').1 _ itm1 (fun h => hI9n (m_co _ h)); have OFF : OwnOff (off n (L + 1 + 1)) [L + 1 + 1] := off_own; have has2 := fun (o' : Obj) => has_cell (c := L + 1 + 1) (o' := o') has1; have hcc := le_trans9 hc2 (TL1.tap.nn); replace N' := news_off N' co1; any_goals (refine hK9 _ _ _ ?_))
  k_with "eval Lambda" => (refine' mk_lam ?Ae ?Be ?Ce C (tab4) (has4) ta_D ?De ?Ee ?Fe ?_; (case Ae | Be | Ce => k_asm); (case De | Ee | Fe => rfl); k_whole; intro f5 c5 oc5 vs5 t5 pm5 ctv5 h' tk n5 F' N' k5 tab5 hf5 hc5 hv5 hq5 f95 c95; have R5 := (R4).keepM X k5 m_ta; have mu5 := (mu4).keepM k5 mu_ta; have bo5 := (bo4).keepM k5 bk_ta lf_ta; have tap5 := (tap4).keepM k5 tp_ta (fun h => X.l2 (m_ta _ h)); have om5 := (om4).keep k5 m_ta; have co5 := k5.1 _ (co4) co_ta; have itm5 := k5.1 _ (itm4) (fun h => hI9n (m_ta _ h)); have has5 := Has.keepM (has4) k5 (has_tab tab5); obtain ⟨oR5, hR5, dR5⟩ := R5.cr)
  k_with "eval Lambda" => (refine' mk_lam ?Af ?Bf ?Cf C (tab2 _) (has2 _) ta_D ?Df ?Ef ?Ff ?_; (case Af | Bf | Cf => k_asm); (case Df | Ef | Ff => rfl); k_whole; intro f3 c3 oc3 vs3 t3 pm3 ctv3 h' tk n3 F' N' k3 tab3 hf3 hc3 hv3 hq3 f93 c93; have R3 := (R2 _).keepM X k3 m_ta; have mu3 := (mu2 _).keepM k3 mu_ta; have bo3 := (bo2 _).keepM k3 bk_ta lf_ta; have tap3 := (tap2 _).keepM k3 tp_ta (fun h => X.l2 (m_ta _ h)); have om3 := (om2 _).keep k3 m_ta; have itm3 := k3.1 _ (itm2 _) (fun h => hI9n (m_ta _ h)); have has3 := Has.keepM (has2 _) k3 (has_tab tab3); have co3 := k3.1 _ (List.Mem.head _) co_ta; obtain ⟨oB3, hB3, dB3⟩ := R3.cb)
  k_with "eval Name" => (k_here; refine' nameX_L ?Ag ?Bg ?_ ?Cg ?Dg ?Eg; (case Cg | Dg => rfl); (case Eg => decide); (case Ag => k_asm); (case Bg => first | exact hM1 | exact hM2); k_whole)
  k_with "eval Name" => (k_here; refine' nameX_C ?Ah ?Bh ?Ch ?Dh ?_ ?Eh ?Fh; (case Eh | Fh => rfl); (case Ah => k_asm); (case Bh => rfl); (case Ch => first | exact hR6 | exact hB6); (case Dh => assumption); k_whole)
  k_with "compareOp NotEq str str" => (refine ne_str_b (bne_self_eq_false _) ?_)
  k_with "callWith ref" => (refine' callWith_K ?Ai ?Bi ?_; (case Ai => k_asm); (case Bi => k_is); k_whole)
  revert Xk; k_fill; intro Xk
  obtain ⟨hmu, e1, e2, e3, e4, e5, e6, e7, e8, e9, e10⟩ := X.ne
  have m_tp : ∀ a ∈ [tp], a ∈ muts5 A bk lf tp (L + 1 + 1) := fun a h => by rw [List.mem_singleton.mp h]; exact List.mem_of_getElem? (i := 2) rfl
  have m_co : ∀ a ∈ [L + 1 + 1], a ∈ muts5 A bk lf tp (L + 1 + 1) := fun a h => by rw [List.mem_singleton.mp h]; exact List.mem_of_getElem? (i := 3) rfl
  have m_ta : ∀ a ∈ [799], a ∈ muts5 A bk lf tp (L + 1 + 1) := fun a h => by rw [List.mem_singleton.mp h]; exact List.mem_of_getElem? (i := 4) rfl
  have m_bo : ∀ a ∈ [bk, lf], a ∈ muts5 A bk lf tp (L + 1 + 1) := fun a h => by rcases List.mem_cons.mp h with h | h; (rw [h]; exact List.mem_of_getElem? (i := 0) rfl); (rw [List.mem_singleton.mp h]; exact List.mem_of_getElem? (i := 1) rfl)
  have m_mu : ∀ a ∈ A.muts, a ∈ muts5 A bk lf tp (L + 1 + 1) := fun a h => .tail _ (.tail _ (.tail _ (.tail _ (.tail _ h))))
  have m_no : ∀ a ∈ ([] : List Nat), a ∈ muts5 A bk lf tp (L + 1 + 1) := fun a h => by cases h
  have mu_D := m_mu
  have ta_D : 799 ∈ muts5 A bk lf tp (L + 1 + 1) := List.mem_of_getElem? (i := 4) rfl
  have hMs : bk ∈ muts5 A bk lf tp (L + 1 + 1) ∧ lf ∈ muts5 A bk lf tp (L + 1 + 1) := ⟨List.mem_of_getElem? (i := 0) rfl, List.mem_of_getElem? (i := 1) rfl⟩
  have mu_tp : ∀ a ∈ A.muts, a ∉ [tp] := fun a h => ne1 ((hmu a h).2.2.1)
  have mu_co : ∀ a ∈ A.muts, a ∉ [L + 1 + 1] := fun a h => ne1 ((hmu a h).2.2.2.1)
  have mu_ta : ∀ a ∈ A.muts, a ∉ [799] := fun a h => ne1 ((hmu a h).2.2.2.2)
  have mu_bo : ∀ a ∈ A.muts, a ∉ [bk, lf] := fun a h => ne2 ⟨(hmu a h).1, (hmu a h).2.1⟩
  have mu_no : ∀ a ∈ A.muts, a ∉ ([] : List Nat) := fun a h => ne0
  have bk_tp : bk ∉ [tp] := ne1 (e2)
  have lf_tp : lf ∉ [tp] := ne1 (e5)
  have bk_co : bk ∉ [L + 1 + 1] := ne1 (e3)
  have lf_co : lf ∉ [L + 1 + 1] := ne1 (e6)
  have bk_ta : bk ∉ [799] := ne1 (e4)
  have lf_ta : lf ∉ [799] := ne1 (e7)
  have bk_mu : bk ∉ A.muts := fun h => (hmu _ h).1 rfl
  have lf_mu : lf ∉ A.muts := fun h => (hmu _ h).2.1 rfl
  have bk_no : bk ∉ ([] : List Nat) := ne0
  have lf_no : lf ∉ ([] : List Nat) := ne0
  have tp_co : tp ∉ [L + 1 + 1] := ne1 (e8)
  have tp_ta : tp ∉ [799] := ne1 (e9)
  have tp_bo : tp ∉ [bk, lf] := ne2 ⟨Ne.symm e2, Ne.symm e5⟩
  have tp_mu : tp ∉ A.muts := fun h => (hmu _ h).2.2.1 rfl
  have tp_no : tp ∉ ([] : List Nat) := ne0
  have co_tp : L + 1 + 1 ∉ [tp] := ne1 (Ne.symm e8)
  have co_ta : L + 1 + 1 ∉ [799] := ne1 (e10)
  have co_bo : L + 1 + 1 ∉ [bk, lf] := ne2 ⟨Ne.symm e3, Ne.symm e6⟩
  have co_mu : L + 1 + 1 ∉ A.muts := fun h => (hmu _ h).2.2.2.1 rfl
  have co_no : L + 1 + 1 ∉ ([] : List Nat) := ne0
  have ta_tp : 799 ∉ [tp] := ne1 (Ne.symm e9)
  have ta_co : 799 ∉ [L + 1 + 1] := ne1 (Ne.symm e10)
  have ta_bo : 799 ∉ [bk, lf] := ne2 ⟨Ne.symm e4, Ne.symm e7⟩
  have ta_mu : 799 ∉ A.muts := fun h => (hmu _ h).2.2.2.2 rfl
  have ta_no : 799 ∉ ([] : List Nat) := ne0
  have R0 := I.r; have mu0 := I.mu; have bo0 := I.bo; have tab0 := I.tab; have itm0 := hI9
  unfold lawT
  dsimp only
  refine let_all ?_; intro qk ek A9 env9
  k_steps
  all_goals first
    | (refine' hQ _ _ c2 _ _ _ _ _ n7 (TurnFr ?fFz9) ?fNz9 itm7 ⟨R7.wd, mu7, bo7, tap7, R7.cb, R7.cr, ⟨_, _, co7, ?dcoz9⟩, tab7⟩ ⟨tap7.nn, by omega⟩ hok.1 hok.2; (case fFz9 => k_asm); (case fNz9 => k_asm); (case dcoz9 => assumption))
section
noncomputable def iniA (j : Nat) : Int := if j = 0 then 2 else if j = 1 then 0 else if j = 2 then 3 else 1
noncomputable def iniW (j : Nat) : Str := if j = 0 then "KLM" else if j = 1 then "" else if j = 2 then "PQ" else "X"
noncomputable def ini : Ar → Nat → V | .A, j => .num (iniA j) | .W, j => .txt (iniW j)
noncomputable def dfl : Ar → V | .A => .num 0 | .W => .txt ""
noncomputable def nm0 : Nm → V | .I => .num 1 | .J => .num 2 | .S => .txt "ABCD"
noncomputable def sg0 : Sg := ⟨nm0, ini⟩
theorem ini_ok (b : Ar) (j : Nat) : okV b.isT (ini b j) := by
  cases b
  · show 0 ≤ iniA j ∧ iniA j ≤ 3
    unfold iniA; split; omega; split; omega; split <;> omega
  · show (iniW j).length ≤ 4
    unfold iniW; split; decide; split; decide; split <;> decide
theorem nm0_ok (p : Nm) : okV p.isT (nm0 p) := by
  cases p
  · show (0 : Int) ≤ 1 ∧ (1 : Int) ≤ 3; omega
  · show (0 : Int) ≤ 2 ∧ (2 : Int) ≤ 3; omega
  · show (Str.ofString "ABCD").length ≤ 4; decide
theorem sg0_ok : sg0.Ok := ⟨nm0_ok, fun b j _ => ini_ok b j⟩
theorem find_app {xs : BKs} {k k' : BK} {v y : Value} (h : valAt xs k = none) : valAt (xs ++ [(k, v, y)]) k' = if k' = k then some y else valAt xs k' := by
  unfold valAt at *
  rw [List.find?_append]
  by_cases e : k' = k
  · subst e
    rw [if_pos rfl]
    have z : xs.find? (fun x => decide (x.1 = k')) = none := by
      cases z : xs.find? (fun x => decide (x.1 = k')) with
      | none => rfl
      | some q => rw [z] at h; cases h
    rw [z]
    simp
  · rw [if_neg e]
    have z : [(k, v, y)].find? (fun x => decide (x.1 = k')) = none := by
      simp [Ne.symm e]
    rw [z]
    simp
theorem valAt_stored {xs : BKs} {k k' : BK} {v y : Value} : valAt (storedB xs k v y) k' = if k' = k then some y else valAt xs k' := by
  unfold storedB
  by_cases h : (valAt xs k).isSome
  · rw [if_pos h]; exact valAt_put h
  · rw [if_neg h]
    exact find_app (by cases e : valAt xs k with | none => rfl | some q => rw [e] at h; exact absurd rfl h)
theorem len_stored {xs : BKs} {k : BK} {v y : Value} : (storedB xs k v y).length ≤ xs.length + 1 := by
  unfold storedB
  split
  · rw [List.length_map]; omega
  · rw [List.length_append]; exact Nat.le_refl _
theorem two_stored {xs : BKs} {k : BK} {v y : Value} (hk : k.isP = true) : ∃ x ∈ storedB xs k v y, x.1.isP = true := by
  have h : valAt (storedB xs k v y) k = some y := by rw [valAt_stored, if_pos rfl]
  obtain ⟨j, v', hj⟩ := valAt_some h
  exact ⟨_, List.mem_of_getElem? hj, hk⟩
structure SaysF (nA nW : Nat) (xs : BKs) (lf : Nat) : Prop where
  nm : ∀ p : Nm, ∃ v, valAt xs (.s p.word) = some v ∧ BV v (nm0 p)
  arA : ∀ j < nA, ∃ v, valAt xs (.p "A" j) = some v ∧ BV v (ini .A j)
  arW : ∀ j < nW, ∃ v, valAt xs (.p "W$" j) = some v ∧ BV v (ini .W j)
  left : valAt xs (.s "left") = some (.ref lf)
  len : xs.length ≤ 4 + nA + nW
theorem SaysF.putA {nA nW : Nat} {xs : BKs} {lf : Nat} {kv v : Value} (S : SaysF nA nW xs lf) (hv : BV v (ini .A nA)) : SaysF (nA + 1) nW (storedB xs (.p "A" nA) kv v) lf := by
  obtain ⟨a, b, c, d, e⟩ := S
  refine ⟨fun p => ?_, fun j hj => ?_, fun j hj => ?_, ?_, ?_⟩
  · rw [valAt_stored, if_neg (by intro h; cases h)]; exact a p
  · rw [valAt_stored]
    by_cases e : j = nA
    · subst e; rw [if_pos rfl]; exact ⟨_, rfl, hv⟩
    · rw [if_neg (by intro h; injection h with h1 h2; omega)]; exact b j (by omega)
  · rw [valAt_stored, if_neg (by intro h; injection h with h1 h2; revert h1; decide)]; exact c j hj
  · rw [valAt_stored, if_neg (by intro h; cases h)]; exact d
  · have := len_stored (xs := xs) (k := .p "A" nA) (v := kv) (y := v); omega
theorem SaysF.putW {nA nW : Nat} {xs : BKs} {lf : Nat} {kv v : Value} (S : SaysF nA nW xs lf) (hv : BV v (ini .W nW)) : SaysF nA (nW + 1) (storedB xs (.p "W$" nW) kv v) lf := by
  obtain ⟨a, b, c, d, e⟩ := S
  refine ⟨fun p => ?_, fun j hj => ?_, fun j hj => ?_, ?_, ?_⟩
  · rw [valAt_stored, if_neg (by intro h; cases h)]; exact a p
  · rw [valAt_stored, if_neg (by intro h; injection h with h1 h2; revert h1; decide)]; exact b j hj
  · rw [valAt_stored]
    by_cases e : j = nW
    · subst e; rw [if_pos rfl]; exact ⟨_, rfl, hv⟩
    · rw [if_neg (by intro h; injection h with h1 h2; omega)]; exact c j (by omega)
  · rw [valAt_stored, if_neg (by intro h; cases h)]; exact d
  · have := len_stored (xs := xs) (k := .p "W$" nW) (v := kv) (y := v); omega
inductive BF (w : World) (bk lf nA nW : Nat) (st : Led) : Prop | mk (o : Obj) (xs : BKs) (a : (bk, o) ∈ st) (b : BookO w st o xs) (c : SaysF nA nW xs lf) (d : 0 < nA → ∃ x ∈ xs, x.1.isP = true)
inductive IT (A : Ad) (b : Ar) (k : Nat) (st : Led) : Prop | mk (v0 v1 v2 v3 : Value) (n : Nat) (a0 : (A.it b, listOf #[v0, v1, v2, v3] n) ∈ st) (a1 : VR st v0 (if 0 < k then ini b 0 else dfl b)) (a2 : VR st v1 (if 1 < k then ini b 1 else dfl b)) (a3 : VR st v2 (if 2 < k then ini b 2 else dfl b)) (a4 : VR st v3 (if 3 < k then ini b 3 else dfl b))
theorem IT.keep {A : Ad} {b : Ar} {k : Nat} {Ms : List Nat} {st n : Led} (x : IT A b k st) (kp : KeepM Ms st n) (h : A.it b ∉ Ms) : IT A b k n := by
  obtain ⟨v0, v1, v2, v3, i, e0, e1, e2, e3, e4⟩ := x
  exact ⟨v0, v1, v2, v3, i, kp.1 _ e0 h, e1.mono kp.2, e2.mono kp.2, e3.mono kp.2, e4.mono kp.2⟩
theorem BF.keep {w : World} {bk lf nA nW : Nat} {Ms : List Nat} {st n : Led} (x : BF w bk lf nA nW st) (kp : KeepM Ms st n) (h : bk ∉ Ms) : BF w bk lf nA nW n := by
  obtain ⟨o, xs, a, b, c, d⟩ := x
  exact ⟨o, xs, kp.1 _ a h, b.up kp.2, c, d⟩
end
noncomputable def lawA : List Stmt × Scope := by
  refine' (fun (α : Prop) (_ : α) (k : List Stmt × Scope) => k) (lawSt = .FunctionDef _ _ [_, _, _, _, _, .For _ _ ?bodyz9 _ _, _, _, _] _ _ _ ?scz9 _ _ _) ?hz9 (?bodyz9, ?scz9)
  case hz9 => exact rfl
section
variable {w : World} {A : Around} {E : Value → Shared → Prop} {s : Shared} {h₀ : Heap} {L a : Nat} {m : Str → Option Value} {news : Led} {n : Nat} {t : Tok}
theorem item_A4 {value slice : Expr} {k0 k1 k2 k3 : Tok} {i : Nat} {Q : Value → Shared → Prop} (N : News h₀ L s.heap news) (hm : (a, listOf #[.int 2 k0, .int 0 k1, .int 3 k2, .int 1 k3] n) ∈ news) (hi : i < 4) (h : ∀ k, Q (.int (iniA i) k) s)
    (hs : subscripted slice false (.ref a) (.int (i : Int) t) = operate [.ref a, .int (i : Int) t] (getItem (.ref a) (.int (i : Int) t))) : wpAny (MG w) A (subscriptTail value slice (.ref a) (.int (i : Int) t)) Q E s := by
  have hL : s.heap.IsList a #[.int 2 k0, .int 0 k1, .int 3 k2, .int 1 k3] := ⟨_, (N _ hm).1, rfl, n, rfl⟩
  obtain ⟨v, e, hv⟩ : ∃ v, (#[.int 2 k0, .int 0 k1, .int 3 k2, .int 1 k3] : Array Value)[((i : Int)).toNat]? = some v ∧ Q v s := by
    rcases fourN hi with rfl | rfl | rfl | rfl
    · exact ⟨_, rfl, h k0⟩
    · exact ⟨_, rfl, h k1⟩
    · exact ⟨_, rfl, h k2⟩
    · exact ⟨_, rfl, h k3⟩
  exact tail_any hL.typeIs slot_list_getitem.lookup (wpAny_getItem_list hL (by omega) (by omega) e hv) hs
theorem item_W4 {value slice : Expr} {k0 k1 k2 k3 : Tok} {i : Nat} {Q : Value → Shared → Prop} (N : News h₀ L s.heap news) (hm : (a, listOf #[.str "KLM" k0, .str "" k1, .str "PQ" k2, .str "X" k3] n) ∈ news) (hi : i < 4) (h : ∀ k, Q (.str (iniW i) k) s)
    (hs : subscripted slice false (.ref a) (.int (i : Int) t) = operate [.ref a, .int (i : Int) t] (getItem (.ref a) (.int (i : Int) t))) : wpAny (MG w) A (subscriptTail value slice (.ref a) (.int (i : Int) t)) Q E s := by
  have hL : s.heap.IsList a #[.str "KLM" k0, .str "" k1, .str "PQ" k2, .str "X" k3] := ⟨_, (N _ hm).1, rfl, n, rfl⟩
  obtain ⟨v, e, hv⟩ : ∃ v, (#[.str "KLM" k0, .str "" k1, .str "PQ" k2, .str "X" k3] : Array Value)[((i : Int)).toNat]? = some v ∧ Q v s := by
    rcases fourN hi with rfl | rfl | rfl | rfl
    · exact ⟨_, rfl, h k0⟩
    · exact ⟨_, rfl, h k1⟩
    · exact ⟨_, rfl, h k2⟩
    · exact ⟨_, rfl, h k3⟩
  exact tail_any hL.typeIs slot_list_getitem.lookup (wpAny_getItem_list hL (by omega) (by omega) e hv) hs
end
theorem VR.step {st n : Led} {b : Ar} {i j : Nat} {u v : Value} (hu : VR n u (ini b i)) (hv : VR st v (if j < i then ini b j else dfl b)) (up : ∀ p ∈ st, p.2.cls = .type "tuple" → p ∈ n) : VR n (if ((i : Int)).toNat = j then u else v) (if j < i + 1 then ini b j else dfl b) := by
  show VR n (if i = j then u else v) _
  by_cases e : i = j
  · subst e; rw [if_pos rfl, if_pos (by omega)]; exact hu
  · rw [if_neg e]
    by_cases e2 : j < i
    · rw [if_pos e2] at hv; rw [if_pos (by omega)]; exact hv.mono up
    · rw [if_neg e2] at hv; rw [if_neg (by omega)]; exact hv.mono up
theorem s_put1 (w : World) (A : Ad) (O : A.Ok w) (st : Led) (W : Wd A st) (b : Ar) (i : Nat) (h3 : i < 4) (kk : Tok) (l : Nat) (hl : ∃ nl t, (l, listOf #[.int (i : Int) t] nl) ∈ st) (I : IT A b i st) (u : Value) (hu : BV u (ini b i)) : Spec w 708 [.ref A.run, .str b.word kk, .ref l, u] 20 st (fun v n => v = .none ∧ KeepM [A.it b] st n ∧ IT A b (i + 1) n) (fun _ _ => False) := by
  obtain ⟨nl, t, hl⟩ := hl
  obtain ⟨v0, v1, v2, v3, ni, e0, r0, r1, r2, r3⟩ := I
  refine (s_put0 w A O st W b kk l nl (.int i t) i hl (.inl ⟨_, rfl⟩) (by omega) (by omega) v0 v1 v2 v3 ni e0 u (ini b i) hu.pv (ini_ok b i)).monoN ?_
  rintro h₀ L h N v n ⟨rfl, hs, u', n', hm, hv⟩
  have up : ∀ p ∈ st, p.2.cls = .type "tuple" → p ∈ n := fun p hp hc => hs p hp (tup_ne N e0 list_nt p hp hc)
  exact ⟨rfl, ⟨fun p hp hn => hs p hp fun e => hn (List.mem_singleton.mpr e), up⟩, _, _, _, _, n', hm, VR.step hv r0 up, VR.step hv r1 up, VR.step hv r2 up, VR.step hv r3 up⟩
theorem lenZ {nA nW : Nat} {xs : BKs} {lf : Nat} {k : BK} {v y : Value} (S : SaysF nA nW xs lf) (h : nA < 4 ∧ nW < 4) : (storedB xs k v y).length ≤ 1000 := by
  have := S.len; have := len_stored (xs := xs) (k := k) (v := v) (y := y); omega
theorem valW2 {xs : BKs} {a v : Value} (i : Int) : valAt (storedB xs (.p "W$" i) a v) (.p "W$" i) = some v := by rw [valAt_stored, if_pos rfl]
theorem valA2 {xs : BKs} {a v b y : Value} (i : Int) : valAt (storedB (storedB xs (.p "A" i) a v) (.p "W$" i) b y) (.p "A" i) = some v := by
  rw [valAt_stored, if_neg (by intro h; injection h with h1 h2; revert h1; decide), valAt_stored, if_pos rfl]
theorem law_at (w : World) (A : Ad) (O : A.Ok w) (bk lf tp l2 L : Nat) (X : Fx A bk lf tp l2 (L + 1) (L + 1 + 1) (L + 1 + 1 + 1)) (p : Program) (loose : List Str) (mean : ExcName → Option Value) (mg mb : Str → Option Value) (dp un : Nat) (gd : Option (List Code)) (a : Addr) (A₀ : Around) (h₀ : Heap) (M : Str → Option Value) (s : Shared) (E : Value → Shared → Prop)
    (i : Nat) (hi : i < 4) (t : Tok) (hM : M "at" = some (.int (i : Int) t)) (B : Below A₀ h₀ [] h₀) (Xk : (K w.params).In h₀) (T : Top p loose mean mg mb h₀) (hd : dp + 60 < recursionLimit) (hu : un + 8 * 60 < cLine)
    (st : Led) (W : Wd A st) (bf : BF w bk lf i i st) (IA : IT A .A i st) (IW : IT A .W i st) (cb : CellIs (L + 1) (.ref bk) st) (cr : CellIs (L + 1 + 1 + 1) (.ref A.run) st)
    (F : Fr h₀ L s.heap M) (N : News h₀ L s.heap st) (Q : Flow → Shared → Prop)
    (hQ : ∀ h' tk n, Fr h₀ L h' M → News h₀ L h' n → KeepM [bk, A.it .A, A.it .W] st n → BF w bk lf (i + 1) (i + 1) n → IT A .A (i + 1) n → IT A .W (i + 1) n → Q .next { s with heap := h', toks := tk }) :
    wpAny (model PySem.Challenge.rw_pf0018_01.row.prog w) (ktrTop dp un gd (Str.ofString "law") lawA.2 L a (.ref 801) (cellsFrom (L + 1) lawA.2.names []) []) (execs lawA.1 (envX (Str.ofString "law") lawA.2 L a (.ref 801) (cellsFrom (L + 1) lawA.2.names []))) Q E s := by
  k_with_none
  k_with "call ref" => (refine' Spec.useK (s_put1 w A O _ ?Aa .W i hi _ _ ?Ba ?Ca _ ⟨_, rfl⟩) ?Da ?Ea ?Fa ?Ga ?Ha ?Ia ?Ja ?Ka ?_ ?_; (case Da | Ea | Fa | Ga | Ha | Ia => walk_at "u9"); (case Aa => exact (fun p hp => (have h1 := W5 p hp; (by (repeat (first | assumption | apply List.Mem.tail)))))); (case Ba => exact ⟨_, _, by walk_at "m9"⟩); (case Ca => exact IW5.keep (Ms := []) ⟨fun p hp hn => (by (repeat (first | assumption | apply List.Mem.tail))), fun p hp hc => (by (repeat (first | assumption | apply List.Mem.tail)))⟩ (by simp)); (case Ja => first | exact hd_le hd rfl | (show dp + _ < _; omega)); (case Ka => first | exact hu_le hu rfl | (show un + _ < _; omega)); rotate_left; exact OutE.none; intro K9 hK9; rintro v n7 h' tk' ⟨rfl, k7, IW7⟩ F' N'; any_goals (refine hK9 _ _ _ ?_))
  k_with "call ref" => (refine' Spec.useK (s_put1 w A O _ ?Ab .A i hi _ _ ?Bb ?Cb _ ⟨_, rfl⟩) ?Db ?Eb ?Fb ?Gb ?Hb ?Ib ?Jb ?Kb ?_ ?_; (case Db | Eb | Fb | Gb | Hb | Ib => walk_at "u9"); (case Ab => exact (fun p hp => (have h1 := W1 p hp; (by (repeat (first | assumption | apply List.Mem.tail)))))); (case Bb => exact ⟨_, _, by walk_at "m9"⟩); (case Cb => exact IA1.keep (Ms := []) ⟨fun p hp hn => (by (repeat (first | assumption | apply List.Mem.tail))), fun p hp hc => (by (repeat (first | assumption | apply List.Mem.tail)))⟩ (by simp)); (case Jb => first | exact hd_le hd rfl | (show dp + _ < _; omega)); (case Kb => first | exact hu_le hu rfl | (show un + _ < _; omega)); rotate_left; exact OutE.none; intro K9 hK9; rintro v n5 h' tk' ⟨rfl, k5, IA5⟩ F' N'; have W5 : Wd A n5 := fun p hp => k5.1 p (have h1 := W1 p hp; (by (repeat (first | assumption | apply List.Mem.tail)))) (fun h => X.obj p hp (it_D _ h)); have m55 := W5.run; have m56 := W5.dR; have bk5 := k5.1 (bk, o2) (by walk_at "m9") (ne1 (Ne.symm hbA)); have B5 := B2.up (n := n5) (fun p hp hc => k5.2 p (by (repeat (first | assumption | apply List.Mem.tail))) hc); have hB5 := k5.1 _ (have h1 := hB1; (by (repeat (first | assumption | apply List.Mem.tail)))) (fun h => X.cB (it_D _ h)); have hR5 := k5.1 _ (have h1 := hR1; (by (repeat (first | assumption | apply List.Mem.tail)))) (fun h => X.cR (it_D _ h)); have IW5 := IW1.keep (n := n5) ⟨fun p hp hn => k5.1 p (by (repeat (first | assumption | apply List.Mem.tail))) hn, fun p hp hc => k5.2 p (by (repeat (first | assumption | apply List.Mem.tail))) hc⟩ (ne1 (Ne.symm hAW)); any_goals (refine hK9 _ _ _ ?_))
  k_with "eval Name" => (k_here; refine' nameX_L ?Ac ?Bc ?_ ?Cc ?Dc ?Ec; (case Cc | Dc => rfl); (case Ec => decide); (case Ac => k_asm); (case Bc => exact hM); k_whole)
  k_with "eval Name" => (k_here; refine' nameX_C ?Ad ?Bd ?Cd ?Dd ?_ ?Ed ?Fd; (case Ed | Fd => rfl); (case Ad => k_asm); (case Bd => rfl); (case Cd => first | (with_reducible exact hR5) | (with_reducible exact hB5) | walk_at "m9"); (case Dd => assumption); k_whole)
  k_with "subscriptTail" => (refine' item_W4 ?Ae ?Be hi ?_ ?Ce; (case Ae => k_asm); (case Be => walk_at "m9"); (case Ce => with_unfolding_all rfl); k_whole; intro kc)
  k_with "subscriptTail Name Constant ref int" => (refine' item_W4 ?Af ?Bf hi ?_ ?Cf; (case Af => k_asm); (case Bf => walk_at "m9"); (case Cf => with_unfolding_all rfl); k_whole; intro kc)
  k_with "subscriptTail" => (refine' item_A4 ?Ag ?Bg hi ?_ ?Cg; (case Ag => k_asm); (case Bg => walk_at "m9"); (case Cg => with_unfolding_all rfl); k_whole; intro kc)
  k_with "subscriptTail Name Constant ref int" => (refine' item_A4 ?Ah ?Bh hi ?_ ?Ch; (case Ah => k_asm); (case Bh => walk_at "m9"); (case Ch => with_unfolding_all rfl); k_whole; intro kc)
  k_with "setItem ref" => (refine' setItem_B (k := .p "W$" i) ?Ai ?Bi ?Ci ?Di ?Ei ?Fi ?Gi ?Hi ?_; (case Ai => ktr_units); (case Bi | Ci => k_asm); (case Di => k_updF); (case Ei => exact B1.up (fun p hp hc => (by (repeat (first | assumption | apply List.Mem.tail))))); (case Fi => exact ⟨_, _, _, rfl, by walk_at "m9"⟩); (case Gi => exact (fun h => by cases h)); (case Hi => exact lenZ SF ⟨hi, hi⟩); k_whole; intro o2 h9 tk9 B2 F9 N9)
  k_with "setItem ref" => (refine' setItem_B (k := .p "A" i) ?Aj ?Bj ?Cj ?Dj ?Ej ?Fj ?Gj ?Hj ?_; (case Aj => ktr_units); (case Bj | Cj => k_asm); (case Dj => k_updF); (case Ej => exact BO.up (fun p hp hc => (have hp' := off_mem.mpr ⟨hp, TN p hp hc⟩; (by (repeat (first | assumption | apply List.Mem.tail)))))); (case Fj => exact ⟨_, _, _, rfl, by walk_at "m9"⟩); (case Gj => exact (fun h => by cases h)); (case Hj => (have := SF.len; omega)); k_whole; intro o1 h9 tk9 B1 F9 N9)
  k_with "subscriptTail Name Tuple ref ref" => (refine' item_B (k := .p "W$" i) ?Ak ?Bk ?Ck ?Dk ?Ek ?Fk (valW2 i) ?_ ?Gk; (case Ak => ktr_units); (case Bk => k_asm); (case Ck => walk_at "m9"); (case Dk => exact B5.up (fun p hp hc => (by (repeat (first | assumption | apply List.Mem.tail))))); (case Ek => exact ⟨_, _, _, rfl, by walk_at "m9"⟩); (case Fk => exact two_stored rfl); (case Gk => with_unfolding_all rfl); k_whole; intro tk)
  k_with "subscriptTail Name Tuple ref ref" => (refine' item_B (k := .p "A" i) ?Al ?Bl ?Cl ?Dl ?El ?Fl (valA2 i) ?_ ?Gl; (case Al => ktr_units); (case Bl => k_asm); (case Cl => walk_at "m9"); (case Dl => exact B2.up (fun p hp hc => (by (repeat (first | assumption | apply List.Mem.tail))))); (case El => exact ⟨_, _, _, rfl, by walk_at "m9"⟩); (case Fl => exact two_stored rfl); (case Gl => with_unfolding_all rfl); k_whole; intro tk)
  revert Xk; k_fill; intro Xk
  obtain ⟨oB, hB, dB⟩ := cb
  obtain ⟨oR, hR, dR⟩ := cr
  obtain ⟨o9, xs, hbk, BO, SF, TWO⟩ := bf
  have bkD : bk ∈ muts5 A bk lf tp (L + 1 + 1) := List.Mem.head _
  have ebk : ∀ {x : Nat}, x = bk → x ∈ muts5 A bk lf tp (L + 1 + 1) := fun e => by rw [e]; exact bkD
  have it_D : ∀ (b : Ar) {x : Nat}, x ∈ [A.it b] → x ∈ muts5 A bk lf tp (L + 1 + 1) := fun b x h => by rw [List.mem_singleton.mp h]; cases b; exact List.mem_of_getElem? (i := 6) rfl; exact List.mem_of_getElem? (i := 7) rfl
  have it_D2 : ∀ (b : Ar), A.it b ∈ A.muts := fun b => by cases b; exact List.mem_of_getElem? (i := 1) rfl; exact List.mem_of_getElem? (i := 2) rfl
  have hbA : A.it .A ≠ bk := (X.ne.1 _ (it_D2 .A)).1
  have hbW : A.it .W ≠ bk := (X.ne.1 _ (it_D2 .W)).1
  have hAW : A.it .A ≠ A.it .W := by have z := O.nd; simp only [Ad.muts, List.nodup_cons, List.mem_cons, not_or] at z; exact z.2.1.1
  have TN := tup_ne N hbk BO.nt
  have hB1 : (L + 1, oB) ∈ off st bk := off_mem.mpr ⟨hB, fun e => X.cB (ebk e)⟩
  have hR1 : (L + 1 + 1 + 1, oR) ∈ off st bk := off_mem.mpr ⟨hR, fun e => X.cR (ebk e)⟩
  have W1 : Wd A (off st bk) := fun p hp => off_mem.mpr ⟨W p hp, fun e => X.obj p hp (by rw [e]; exact bkD)⟩
  have K1 : KeepM [bk] st (off st bk) := ⟨fun p hp hn => off_mem.mpr ⟨hp, fun e => hn (List.mem_singleton.mpr e)⟩, fun p hp hc => off_mem.mpr ⟨hp, TN p hp hc⟩⟩
  have IA1 := IA.keep K1 (ne1 hbA)
  have IW1 := IW.keep K1 (ne1 hbW)
  have OFF : OwnOff (off st bk) [bk] := off_own
  have m5 := W1.run; have m6 := W1.dR; have e6 := O.rNo "put" (List.mem_of_getElem? (i := 8) rfl)
  replace N := news_off N hbk
  unfold lawA
  dsimp only
  refine let_all ?_; intro qk ek A9 env9
  k_steps
  have T9 : ∀ {p : Addr × Obj}, p ∈ n5 → p ∈ n5 := fun h => h
  have nb : bk ∉ [A.it .W] := ne1 (Ne.symm hbW)
  refine hQ _ _ n7 (by k_asm) (by k_asm) ⟨fun p hp hn => ?_, fun p hp hc => ?_⟩ ⟨o2, _, k7.1 _ (have h1 := bk5; by (repeat (first | assumption | apply List.Mem.tail))) nb, B5.up (fun p hp hc => k7.2 p (by (repeat (first | assumption | apply List.Mem.tail))) hc), (SF.putA ⟨_, rfl⟩).putW ⟨_, rfl⟩, fun _ => two_stored rfl⟩ (IA5.keep (Ms := [A.it .W]) ⟨fun p hp hn => k7.1 p (by (repeat (first | assumption | apply List.Mem.tail))) hn, fun p hp hc => k7.2 p (by (repeat (first | assumption | apply List.Mem.tail))) hc⟩ (ne1 hAW)) IW7
  · replace hn : p.1 ≠ bk ∧ p.1 ≠ A.it .A ∧ p.1 ≠ A.it .W := ⟨fun e => hn (List.mem_of_getElem? (i := 0) (congrArg some e.symm)), fun e => hn (List.mem_of_getElem? (i := 1) (congrArg some e.symm)), fun e => hn (List.mem_of_getElem? (i := 2) (congrArg some e.symm))⟩
    have h1 : p ∈ off st bk := off_mem.mpr ⟨hp, hn.1⟩
    have h2 := k5.1 p (by (repeat (first | assumption | apply List.Mem.tail))) (ne1 hn.2.1)
    exact k7.1 p (by (repeat (first | assumption | apply List.Mem.tail))) (ne1 hn.2.2)
  · have h1 : p ∈ off st bk := off_mem.mpr ⟨hp, TN p hp hc⟩
    have h2 := k5.2 p (by (repeat (first | assumption | apply List.Mem.tail))) hc
    exact k7.2 p (by (repeat (first | assumption | apply List.Mem.tail))) hc
section
theorem Wd.keepM {A : Ad} {Ms : List Nat} {st n : Led} (W : Wd A st) (k : KeepM Ms st n) (h : ∀ p ∈ A.objs, p.1 ∉ Ms) : Wd A n := fun p hp => k.1 p (W p hp) (h p hp)
theorem at_loop (w : World) (A : Ad) (O : A.Ok w) (bk lf tp l2 L : Nat) (X : Fx A bk lf tp l2 (L + 1) (L + 1 + 1) (L + 1 + 1 + 1)) (p : Program) (loose : List Str) (mean : ExcName → Option Value) (mg mb : Str → Option Value) (dp un : Nat) (gd : Option (List Code)) (a : Addr) (A₀ : Around) (h₀ : Heap) (s : Shared) (E : Value → Shared → Prop) (B : Below A₀ h₀ [] h₀) (Xk : (K w.params).In h₀) (T : Top p loose mean mg mb h₀) (hd : dp + 60 < recursionLimit) (hu : un + 8 * 60 < cLine) (Q : Flow → Shared → Prop) (I : Nat) (hI : I ∉ [bk, A.it .A, A.it .W]) :
    ∀ (k i : Nat) (m : Str → Option Value) (st : Led), i + k = 4 → (∀ p ∈ st, p.1 ≠ I) → Wd A st → BF w bk lf i i st → IT A .A i st → IT A .W i st → (CellIs (L + 1) (.ref bk) st) → (CellIs (L + 1 + 1 + 1) (.ref A.run) st) →
      (∀ h tk m' n, Fr h₀ L h m' → News h₀ L h n → (∀ y : Str, y ≠ "at" → m' y = m y) → KeepM [bk, A.it .A, A.it .W] st n → BF w bk lf 4 4 n → IT A .A 4 n → IT A .W 4 n → Q .next { s with heap := h, toks := tk }) →
      RangeRest PySem.Challenge.rw_pf0018_01.row.prog w (ktrTop dp un gd (Str.ofString "law") lawA.2 L a (.ref 801) (cellsFrom (L + 1) lawA.2.names []) []) E h₀ (envX (Str.ofString "law") lawA.2 L a (.ref 801) (cellsFrom (L + 1) lawA.2.names [])) "at" lawA.1 Q s I 0 4 k i m st := by
  have mD : ∀ {x : Nat}, x ∈ [bk, A.it .A, A.it .W] → x ∈ muts5 A bk lf tp (L + 1 + 1) := fun {x} h => by
    simp only [List.mem_cons, List.not_mem_nil, or_false] at h
    rcases h with rfl | rfl | rfl <;> simp [muts5, Ad.muts]
  intro k
  induction k with
  | zero =>
    intro i m st hi hoff W bf IA IW cb cr hQ
    obtain rfl : i = 4 := by omega
    exact RangeRest.zero (fun h tk F N => hQ h tk m st F N (fun _ _ => rfl) KeepM.refl bf IA IW)
  | succ k ih =>
    intro i m st hi hoff W bf IA IW cb cr hQ
    refine RangeRest.succ (fun t h tk F N => ?_)
    have KC : KeepM [] st ((I, itR (0 + ((i + 1 : Nat) : Int)) (((4 : Nat) : Int) - ((i + 1 : Nat) : Int))) :: st) := ⟨fun p hp _ => .tail _ hp, fun p hp _ => .tail _ hp⟩
    refine law_at w A O bk lf tp l2 L X p loose mean mg mb dp un gd a A₀ h₀ _ _ E i (by omega) t ?_ B Xk T hd hu _ (W.keepM KC (by simp)) (bf.keep KC (by simp)) (IA.keep KC (by simp)) (IW.keep KC (by simp)) (let ⟨o, h1, h2⟩ := cb; ⟨o, .tail _ h1, h2⟩) (let ⟨o, h1, h2⟩ := cr; ⟨o, .tail _ h1, h2⟩) F N _ ?_
    · show (if (Str.ofString "at" : Str) = Str.ofString "at" then _ else _) = _
      rw [if_pos rfl, Int.zero_add]
    · intro h' tk' n F' N' k' bf' IA' IW'
      have hit := k'.1 _ (.head _) hI
      have kp : KeepM [bk, A.it .A, A.it .W] st (off n I) := ⟨fun p hp hn => off_mem.mpr ⟨k'.1 p (.tail _ hp) hn, hoff p hp⟩, fun p hp hc => off_mem.mpr ⟨k'.2 p (.tail _ hp) hc, hoff p hp⟩⟩
      have KO : KeepM [I] n (off n I) := ⟨fun p hp hn => off_mem.mpr ⟨hp, by simpa using hn⟩, fun p hp hc => off_mem.mpr ⟨hp, tup_ne N' hit (by intro h; exact absurd (Value.type.inj h) (by decide)) p hp hc⟩⟩
      simp only [List.mem_cons, List.not_mem_nil, or_false, not_or] at hI
      refine ⟨h', tk', _, off n I, rfl, F', news_off N' hit, fun p hp => (off_mem.mp hp).2, ?_⟩
      refine ih (i + 1) _ (off n I) (by omega) (fun p hp => (off_mem.mp hp).2) (W.keepM kp (fun p hp h => X.obj p hp (mD h))) (bf'.keep KO (by simpa using Ne.symm hI.1)) (IA'.keep KO (by simpa using Ne.symm hI.2.1)) (IW'.keep KO (by simpa using Ne.symm hI.2.2)) (let ⟨o, h1, h2⟩ := cb; ⟨o, kp.1 _ h1 (fun h => X.cB (mD h)), h2⟩) (let ⟨o, h1, h2⟩ := cr; ⟨o, kp.1 _ h1 (fun h => X.cR (mD h)), h2⟩) ?_
      intro h2 tk2 m2 n2 F2 N2 e2 k2 b2 IA2 IW2
      exact hQ h2 tk2 m2 n2 F2 N2 (fun y hy => (e2 y hy).trans (if_neg hy)) (kp.trans k2) b2 IA2 IW2
end
section
theorem LI.cons {w : World} {A : Ad} {bk lf tp l2 cB cO cR : Nat} {σ : Sg} {left : List Int} {q : Nat} {c : Int} {st : Led} {x : Addr × Obj} (I : LI w A bk lf tp l2 cB cO cR σ left q c st) : LI w A bk lf tp l2 cB cO cR σ left q c (x :: st) := by
  have KC : KeepM [] st (x :: st) := KeepM.cons
  exact ⟨I.wd.keepM KC (by simp), I.mu.keepM KC (by simp), I.bo.keepM KC (by simp) (by simp), I.tap.keepM KC (by simp) (by simp), I.cb.up (fun h => .tail _ h), I.cr.up (fun h => .tail _ h), I.co.up (fun h => .tail _ h), I.tab.keep KC (by simp) (by simp)⟩
theorem LI.off {w : World} {A : Ad} {bk lf tp l2 cB cO cR : Nat} {σ : Sg} {left : List Int} {q : Nat} {c : Int} {n : Led} {h₀ h : Heap} {L : Addr} {J : Nat} {x y : Int} (I : LI w A bk lf tp l2 cB cO cR σ left q c n) (N : News h₀ L h n) (hit : (J, itR x y) ∈ n)
    (h1 : J ∉ muts5 A bk lf tp cO) (h2 : ∀ p ∈ A.objs, p.1 ≠ J) (h3 : l2 ≠ J) (h4 : cB ≠ J) (h5 : cR ≠ J) : LI w A bk lf tp l2 cB cO cR σ left q c (off n J) := by
  have KO : KeepM [J] n (Mine.off n J) := ⟨fun p hp hn => off_mem.mpr ⟨hp, by simpa using hn⟩, fun p hp hc => off_mem.mpr ⟨hp, tup_ne N hit (by intro h; exact absurd (Value.type.inj h) (by decide)) p hp hc⟩⟩
  have hm : ∀ a ∈ muts5 A bk lf tp cO, a ∉ [J] := fun a ha e => h1 (by rw [← List.mem_singleton.mp e]; exact ha)
  have ix : ∀ {a : Nat} (i : Nat), (muts5 A bk lf tp cO)[i]? = some a → a ∉ [J] := fun i e => hm _ (List.mem_of_getElem? e)
  refine ⟨I.wd.keepM KO (fun p hp => ne1 (h2 p hp)), I.mu.keepM KO (fun a ha => hm a (.tail _ (.tail _ (.tail _ (.tail _ (.tail _ ha)))))), I.bo.keepM KO (ix 0 rfl) (ix 1 rfl), I.tap.keepM KO (ix 2 rfl) (ne1 h3), I.cb.up (fun h => KO.1 _ h (ne1 h4)), I.cr.up (fun h => KO.1 _ h (ne1 h5)), I.co.up (fun h => KO.1 _ h (ix 3 rfl)), ?_⟩
  obtain ⟨ps, t1, t2, t3⟩ := I.tab
  refine ⟨ps, KO.1 _ t1 (ix 4 rfl), t2, fun pos v e => ?_⟩
  obtain ⟨c', oc, vs, t, e1, e2, e3, e4, e5⟩ := t3 pos v e
  refine ⟨c', oc, vs, t, e1, off_mem.mpr ⟨e2, fun hc => ?_⟩, e3, e4, e5⟩
  have z1 := (N _ e2).1
  have z2 := (N _ hit).1
  rw [show c' = J from hc] at z1
  have z3 : itR x y = oc := Option.some.inj (z2.symm.trans z1)
  rw [← z3] at e4
  have e6 := Data.fields.inj e4
  rw [← e6] at e5
  cases e5
theorem turn_loop (w : World) (A : Ad) (O : A.Ok w) (bk lf tp l2 L : Nat) (X : Fx A bk lf tp l2 (L + 1) (L + 1 + 1) (L + 1 + 1 + 1)) (p : Program) (loose : List Str) (mean : ExcName → Option Value) (mg mb : Str → Option Value) (dp un : Nat) (gd : Option (List Code)) (a : Addr) (A₀ : Around) (h₀ : Heap) (M : Str → Option Value) (hM1 : M "tape" = some (.ref tp)) (hM2 : M "world" = some (.ref A.wld)) (s : Shared) (E : Value → Shared → Prop) (B : Below A₀ h₀ [] h₀) (Xk : (K w.params).In h₀) (T : Top p loose mean mg mb h₀) (C : CodeHd h₀ 801 799) (hd : dp + 60 < recursionLimit) (hu : un + 8 * 60 < cLine) (Q : Flow → Shared → Prop) (J : Nat)
    (h1 : J ∉ muts5 A bk lf tp (L + 1 + 1)) (h2 : ∀ p ∈ A.objs, p.1 ≠ J) (h3 : l2 ≠ J) (h4 : L + 1 ≠ J) (h5 : L + 1 + 1 + 1 ≠ J) (nn : Nat) (hQ : ∀ h tk m' n, (∃ ps, (799, tabObj ps) ∈ n) → Fr h₀ L h m' → News h₀ L h n → Q .next { s with heap := h, toks := tk }) :
    ∀ (k i : Nat) (σ : Sg) (left : List Int) (q : Nat) (c : Int) (tv du co : Option Value) (st : Led), q + 10 * k ≤ 9000 → 0 ≤ c → c + 20 * k ≤ 500 → (∀ p ∈ st, p.1 ≠ J) → LI w A bk lf tp l2 (L + 1) (L + 1 + 1) (L + 1 + 1 + 1) σ left q c st → σ.Ok → LOk left →
      RangeRest PySem.Challenge.rw_pf0018_01.row.prog w (ktrTop dp un gd (Str.ofString "law") lawT.2 L a (.ref 801) (cellsFrom (L + 1) lawT.2.names []) []) E h₀ (envX (Str.ofString "law") lawT.2 L a (.ref 801) (cellsFrom (L + 1) lawT.2.names [])) "turn" lawT.1 Q s J 0 nn k i (turnM M tv du co) st := by
  intro k
  induction k with
  | zero =>
    intro i σ left q c tv du co st _ _ _ _ I _ _
    exact RangeRest.zero (fun h tk F N => hQ h tk _ st (by obtain ⟨ps, e, -⟩ := I.tab; exact ⟨ps, e⟩) F N)
  | succ k ih =>
    intro i σ left q c tv du co st hq hc0 hc hoff I hσ hl
    refine RangeRest.succ (fun t h tk F N => ?_)
    have F' : Fr h₀ L h (turnM M (some (.int (0 + (i : Int)) t)) du co) := by
      have z : (fun y : Str => if y = "turn" then some (.int (0 + (i : Int)) t) else turnM M tv du co y) = turnM M (some (.int (0 + (i : Int)) t)) du co := funext fun y => by
        show (if y = "turn" then _ else if y = "turn" then tv else if y = "due" then du else if y = "code" then co else M y) = if y = "turn" then _ else if y = "due" then du else if y = "code" then co else M y
        by_cases h1 : y = "turn"
        · rw [if_pos h1, if_pos h1]
        · rw [if_neg h1, if_neg h1, if_neg h1]
      exact z ▸ F
    refine law_turn w A O bk lf tp l2 L X p loose mean mg mb dp un gd a A₀ h₀ M _ E hM1 hM2 B Xk T C hd hu σ left q c _ I.cons (by omega) ⟨hc0, by omega⟩ hσ hl _ du co J _ (.head _) h1 F' N _ ?_
    intro σ' left' c' h' tk' tv' du' co' n F2 N2 hit I' hc' hσ' hl'
    refine ⟨h', tk', _, off n J, rfl, F2, news_off N2 hit, fun p hp => (off_mem.mp hp).2, ?_⟩
    exact ih (i + 1) σ' left' (q + 10) c' tv' du' co' (off n J) (by omega) hc'.1 (by omega) (fun p hp => (off_mem.mp hp).2) (I'.off N2 hit h1 h2 h3 h4 h5) hσ' hl'
end
noncomputable def lawW : List Stmt × Scope := by
  refine' (fun (α : Prop) (_ : α) (k : List Stmt × Scope) => k) (lawSt = .FunctionDef _ _ [_, _, _, _, _, _, .For _ _ ?bodyz9 _ _, _, _] _ _ _ ?scz9 _ _ _) ?hz9 (?bodyz9, ?scz9)
  case hz9 => exact rfl
noncomputable def ND (w : World) (A : Ad) (kvs : List (Str × Value)) (st : Led) : Prop := ∃ o, (A.aN, o) ∈ st ∧ DictO w kvs o
theorem s_store1 (w : World) (A : Ad) (O : A.Ok w) (st : Led) (W : Wd A st) (x : Nm) (kvs : List (Str × Value)) (hkv : kvs.length ≤ 1000) (h : ND w A kvs st) (k : Tok) (u : Value) (hu : BV u (nm0 x)) : Spec w 703 [.ref A.run, .str x.word k, u] 20 st (fun v n => v = .none ∧ KeepM [A.aN] st n ∧ ∃ u', ND w A (stored kvs x.word u') n ∧ VR n u' (nm0 x)) (fun _ _ => False) := by
  obtain ⟨oN, hN, D⟩ := h
  refine (s_store0 w A O st W x oN kvs hN D hkv k u (nm0 x) hu.pv (nm0_ok x)).monoN ?_
  rintro h₀ L h N v n ⟨rfl, hs, o', u', hm, hD, hv⟩
  exact ⟨rfl, ⟨fun p hp hn => hs p hp (by simpa using hn), fun p hp hc => hs p hp (tup_ne N hN (dictO_nt D) p hp hc)⟩, u', ⟨o', hm, hD⟩, hv⟩
theorem law_word (w : World) (A : Ad) (O : A.Ok w) (bk lf tp l2 L : Nat) (X : Fx A bk lf tp l2 (L + 1) (L + 1 + 1) (L + 1 + 1 + 1)) (p : Program) (loose : List Str) (mean : ExcName → Option Value) (mg mb : Str → Option Value) (dp un : Nat) (gd : Option (List Code)) (a : Addr) (A₀ : Around) (h₀ : Heap) (M : Str → Option Value) (s : Shared) (E : Value → Shared → Prop)
    (x : Nm) (t : Tok) (hM : M "word" = some (.str x.word t)) (B : Below A₀ h₀ [] h₀) (Xk : (K w.params).In h₀) (T : Top p loose mean mg mb h₀) (hd : dp + 60 < recursionLimit) (hu : un + 8 * 60 < cLine)
    (st : Led) (W : Wd A st) (bf : BF w bk lf 4 4 st) (kvs : List (Str × Value)) (hkv : kvs.length ≤ 1000) (hN : ND w A kvs st) (cb : CellIs (L + 1) (.ref bk) st) (cr : CellIs (L + 1 + 1 + 1) (.ref A.run) st)
    (F : Fr h₀ L s.heap M) (N : News h₀ L s.heap st) (Q : Flow → Shared → Prop)
    (hQ : ∀ h' tk n u, Fr h₀ L h' M → News h₀ L h' n → KeepM [A.aN] st n → ND w A (stored kvs x.word u) n → VR n u (nm0 x) → Q .next { s with heap := h', toks := tk }) :
    wpAny (model PySem.Challenge.rw_pf0018_01.row.prog w) (ktrTop dp un gd (Str.ofString "law") lawW.2 L a (.ref 801) (cellsFrom (L + 1) lawW.2.names []) []) (execs lawW.1 (envX (Str.ofString "law") lawW.2 L a (.ref 801) (cellsFrom (L + 1) lawW.2.names []))) Q E s := by
  k_with_none
  k_with "call ref" => (refine' Spec.useK (s_store1 w A O st W x kvs hkv hN _ _ bX) ?Aa ?Ba ?Ca ?Da ?Ea ?Fa ?Ga ?Ha ?_ ?_; (case Aa | Ba | Ca | Da | Ea | Fa => walk_at "u9"); (case Ga => first | exact hd_le hd rfl | (show dp + _ < _; omega)); (case Ha => first | exact hu_le hu rfl | (show un + _ < _; omega)); rotate_left; exact OutE.none; intro K9 hK9; rintro v n' h' tk' ⟨rfl, kX, uX, DX, vX⟩ F' N'; any_goals (refine hK9 _ _ _ ?_))
  k_with "eval Name" => (k_here; refine' nameX_L ?Ab ?Bb ?_ ?Cb ?Db ?Eb; (case Cb | Db => rfl); (case Eb => decide); (case Ab => k_asm); (case Bb => exact hM); k_whole)
  k_with "eval Name" => (k_here; refine' nameX_C ?Ac ?Bc ?Cc ?Dc ?_ ?Ec ?Fc; (case Ec | Fc => rfl); (case Ac => k_asm); (case Bc => rfl); (case Cc => walk_at "m9"); (case Dc => assumption); k_whole)
  k_with "subscriptTail" => (refine' item_B (k := .s x.word) ?Ad ?Bd ?Cd ?Dd ?Ed ?Fd aX ?_ ?Gd; (case Ad => ktr_units); (case Bd => k_asm); (case Cd => walk_at "m9"); (case Dd => exact B9); (case Ed => exact ⟨_, rfl⟩); (case Fd => exact tw9 (by decide)); (case Gd => with_unfolding_all rfl); k_whole; intro tk)
  k_with "subscriptTail Name Constant ref int" => (refine' item_B (k := .s x.word) ?Ae ?Be ?Ce ?De ?Ee ?Fe aX ?_ ?Ge; (case Ae => ktr_units); (case Be => k_asm); (case Ce => walk_at "m9"); (case De => exact B9); (case Ee => exact ⟨_, rfl⟩); (case Fe => exact tw9 (by decide)); (case Ge => with_unfolding_all rfl); k_whole; intro tk)
  revert Xk; k_fill; intro Xk
  obtain ⟨oB, hB, dB⟩ := cb
  obtain ⟨oR, hR, dR⟩ := cr
  obtain ⟨o9, xs9, hb9, B9, S9, tw9⟩ := bf
  obtain ⟨yX, aX, bX⟩ := S9.nm x
  have m5 := W.run; have m6 := W.dR; have e6 := O.rNo "store" (by simp)
  unfold lawW
  dsimp only
  refine let_all ?_; intro qk ek A9 env9
  k_steps
  all_goals first
    | exact hQ _ _ _ uX (by k_asm) (by k_asm) kX DX vX
theorem word_step (w : World) (A : Ad) (O : A.Ok w) (bk lf tp l2 L : Nat) (X : Fx A bk lf tp l2 (L + 1) (L + 1 + 1) (L + 1 + 1 + 1)) (p : Program) (loose : List Str) (mean : ExcName → Option Value) (mg mb : Str → Option Value) (dp un : Nat) (gd : Option (List Code)) (a : Addr) (A₀ : Around) (h₀ : Heap) (s : Shared) (E : Value → Shared → Prop) (B : Below A₀ h₀ [] h₀) (Xk : (K w.params).In h₀) (T : Top p loose mean mg mb h₀) (hd : dp + 60 < recursionLimit) (hu : un + 8 * 60 < cLine) (Q : Flow → Shared → Prop) (J : Nat) (hJ : A.aN ≠ J) (px : Pos)
    (x : Nm) (t : Tok) (kvs : List (Str × Value)) (hkv : kvs.length ≤ 1000) (r : List Itm) (lp : Addr × Obj) (hlp : lp.2.cls = .type "tuple") (m : Str → Option Value) (st : Led) (hl : lp ∈ st) (hoff : ∀ q ∈ st, q.1 ≠ J) (W : Wd A st) (bf : BF w bk lf 4 4 st) (hN : ND w A kvs st) (cb : CellIs (L + 1) (.ref bk) st) (cr : CellIs (L + 1 + 1 + 1) (.ref A.run) st)
    (go : ∀ m' n u, (∀ y : Str, y ≠ "word" → m' y = m y) → lp ∈ n → (∀ q ∈ n, q.1 ≠ J) → KeepM [A.aN] st n → ND w A (stored kvs x.word u) n → VR n u (nm0 x) → ItemsRest PySem.Challenge.rw_pf0018_01.row.prog w (ktrTop dp un gd (Str.ofString "law") lawW.2 L a (.ref 801) (cellsFrom (L + 1) lawW.2.names []) []) E h₀ (envX (Str.ofString "law") lawW.2 L a (.ref 801) (cellsFrom (L + 1) lawW.2.names [])) (.Name "word" px) lawW.1 Q s [(J, "tuple_iterator")] [lp] r m' n) :
    ItemsRest PySem.Challenge.rw_pf0018_01.row.prog w (ktrTop dp un gd (Str.ofString "law") lawW.2 L a (.ref 801) (cellsFrom (L + 1) lawW.2.names []) []) E h₀ (envX (Str.ofString "law") lawW.2 L a (.ref 801) (cellsFrom (L + 1) lawW.2.names [])) (.Name "word" px) lawW.1 Q s [(J, "tuple_iterator")] [lp] (.val (.str x.word t) :: r) m st := by
  k_with_none
  refine ItemsRest.val (fun h' tk' F' => AllObj.cons (fun it hc => AllObj.nil (fun N' => ?_)))
  replace F' : Fr h₀ L h' m := F'
  replace N' : News h₀ L h' ((J, it) :: st) := N'
  have hc' : it.cls = .type "tuple_iterator" := hc
  unfold lawW
  dsimp only
  iterate 2 (first | walk1 | (dsimp only; walk1))
  rename Fr _ _ _ _ => F9
  have KC : KeepM [] st ((J, it) :: st) := KeepM.cons
  have hnt : it.cls ≠ .type "tuple" := by rw [hc']; intro h; exact absurd (Value.type.inj h) (by decide)
  refine law_word w A O bk lf tp l2 L X p loose mean mg mb dp un gd a A₀ h₀ (fun y => if y = "word" then some (.str x.word t) else m y) _ E x t (by first | rfl | exact if_pos rfl) B Xk T hd hu ((J, it) :: st) (W.keepM KC (by simp)) (bf.keep KC (by simp)) kvs hkv (let ⟨o, h1, h2⟩ := hN; ⟨o, .tail _ h1, h2⟩) (let ⟨o, h1, h2⟩ := cb; ⟨o, .tail _ h1, h2⟩) (let ⟨o, h1, h2⟩ := cr; ⟨o, .tail _ h1, h2⟩) (by k_asm) (by k_asm) _ ?_
  intro h2 tk2 n u F2 N2 k2 D2 v2
  have hit := k2.1 _ (.head _) (by simpa using Ne.symm hJ)
  have TN := tup_ne N2 hit hnt
  have KO : KeepM [A.aN] st (off n J) := ⟨fun p hp hn => off_mem.mpr ⟨k2.1 p (.tail _ hp) hn, hoff p hp⟩, fun p hp hc => off_mem.mpr ⟨k2.2 p (.tail _ hp) hc, hoff p hp⟩⟩
  refine ⟨h2, tk2, _, off n J, rfl, F2, news_off N2 hit, fun p hp q hq => ?_, ⟨KO.2 _ hl hlp, trivial⟩, go _ (off n J) u (fun y hy => if_neg hy) (KO.2 _ hl hlp) (fun q hq => (off_mem.mp hq).2) KO (let ⟨o, h1, h2⟩ := D2; ⟨o, off_mem.mpr ⟨h1, hJ⟩, h2⟩) (v2.mono fun p hp hc => off_mem.mpr ⟨hp, TN p hp hc⟩)⟩
  rw [List.mem_singleton.mp hq]
  exact (off_mem.mp hp).2
noncomputable def lawR : List Stmt × Scope := by
  refine' (fun (α : Prop) (_ : α) (k : List Stmt × Scope) => k) (lawSt = .FunctionDef _ _ [_, _, _, _, _, ?az9, ?bz9, ?cz9, ?dz9] _ _ _ ?scz9 _ _ _) ?hz9 ([?az9, ?bz9, ?cz9, ?dz9], ?scz9)
  case hz9 => exact rfl
noncomputable def left0 : List Int := [1, 3, 0, 2, 4, 1]
theorem left0_ok : LOk left0 := ⟨by decide, by decide⟩
structure FR (A : Ad) (bk lf tp l2 cB cO cR : Nat) (st : Led) : Prop where
  wd : Wd A st
  fnr : IntS A.fnr left0 st
  ask : ArrS A.ask 0 st
  left : IntS lf left0 st
  tap : Tp tp l2 0 st
  cb : CellIs cB (.ref bk) st
  cr : CellIs cR (.ref A.run) st
  co : CellAny cO st
  tab : TabI (muts5 A bk lf tp cO) st
theorem nd9 {l : List Nat} (h : l.Nodup) (i j : Nat) {a b : Nat} (hi : l[i]? = some a) (hj : l[j]? = some b) (hn : (i == j) = false) : a ≠ b := fun e => by
  subst e
  have := (List.getElem?_inj (List.getElem?_eq_some_iff.mp hi).1 h).mp (hi.trans hj.symm)
  subst this
  simp at hn
theorem fr_no {A : Ad} {bk lf tp cO x : Nat} {Ms : List Nat} (nd : (muts5 A bk lf tp cO).Nodup) (h : ∀ a ∈ Ms, a = bk ∨ a = A.aN ∨ a = A.it .A ∨ a = A.it .W) (i : Nat) (hi : (muts5 A bk lf tp cO)[i]? = some x) (h0 : (i == 0) = false) (h5 : (i == 5) = false) (h6 : (i == 6) = false) (h7 : (i == 7) = false) : x ∉ Ms := fun hx => by
  rcases h x hx with e | e | e | e
  · exact nd9 nd i 0 hi rfl h0 e
  · exact nd9 nd i 5 hi rfl h5 e
  · exact nd9 nd i 6 hi rfl h6 e
  · exact nd9 nd i 7 hi rfl h7 e
theorem FR.keep {A : Ad} {bk lf tp l2 cB cO cR : Nat} {Ms : List Nat} {st n : Led} (R : FR A bk lf tp l2 cB cO cR st) (O : A.muts.Nodup) (X : Fx A bk lf tp l2 cB cO cR) (k : KeepM Ms st n) (h : ∀ a ∈ Ms, a = bk ∨ a = A.aN ∨ a = A.it .A ∨ a = A.it .W) : FR A bk lf tp l2 cB cO cR n := by
  have mD : ∀ {x : Nat}, x ∈ Ms → x ∈ muts5 A bk lf tp cO := fun {x} hx => by
    rcases h x hx with rfl | rfl | rfl | rfl
    · exact List.mem_of_getElem? (i := 0) rfl
    · exact List.mem_of_getElem? (i := 5) rfl
    · exact List.mem_of_getElem? (i := 6) rfl
    · exact List.mem_of_getElem? (i := 7) rfl
  have no := fun {x : Nat} (i : Nat) => fr_no (x := x) X.nd h i
  obtain ⟨W, ⟨v1, n1, m1, r1⟩, ⟨v2, n2, m2, r2⟩, ⟨v3, n3, m3, r3⟩, T, ⟨o1, m4, r4⟩, ⟨o2, m5, r5⟩, ⟨o3, v, m6, r6⟩, TT⟩ := R
  refine ⟨W.keepM k fun p hp hm => X.obj p hp (mD hm), ⟨v1, n1, k.1 _ m1 (no 9 rfl rfl rfl rfl rfl), r1⟩, ⟨v2, n2, k.1 _ m2 (no 8 rfl rfl rfl rfl rfl), r2⟩, ⟨v3, n3, k.1 _ m3 (no 1 rfl rfl rfl rfl rfl), r3⟩, T.keepM k (no 2 rfl rfl rfl rfl rfl) (fun hm => X.l2 (mD hm)), ⟨o1, k.1 _ m4 fun hm => X.cB (mD hm), r4⟩, ⟨o2, k.1 _ m5 fun hm => X.cR (mD hm), r5⟩, ⟨o3, v, k.1 _ m6 (no 3 rfl rfl rfl rfl rfl), r6⟩, TT.keep k (no 4 rfl rfl rfl rfl rfl) (fun a ha => mD ha)⟩
theorem SaysF.says {xs : BKs} {lf : Nat} (S : SaysF 4 4 xs lf) (tw : ∃ x ∈ xs, x.1.isP = true) : Says xs sg0 lf := by
  refine ⟨fun p hp => ?_, S.left, by have := S.len; omega, tw⟩
  cases p with
  | n p => exact S.nm p
  | a b i =>
    obtain ⟨h0, h3⟩ : 0 ≤ i ∧ i ≤ 3 := hp
    obtain ⟨j, rfl⟩ : ∃ j : Nat, i = j := ⟨i.toNat, by omega⟩
    cases b
    · exact S.arA j (by omega)
    · exact S.arW j (by omega)
theorem rr_m {prog : Program} {w : World} {Ar : Around} {E : Value → Shared → Prop} {h₀ : Heap} {env : Env} {x : Str} {body : List Stmt} {Q : Flow → Shared → Prop} {s : Shared} {J : Addr} {a : Int} {n k i : Nat} {m m' : Str → Option Value} {st : Led} (e : m = m') (h : RangeRest prog w Ar E h₀ env x body Q s J a n k i m' st) : RangeRest prog w Ar E h₀ env x body Q s J a n k i m st := e ▸ h
theorem LI.tape {w : World} {A : Ad} {bk lf tp l2 cB cO cR : Nat} {σ : Sg} {left : List Int} {q : Nat} {c c' : Int} {st n : Led} (I : LI w A bk lf tp l2 cB cO cR σ left q c st) (X : Fx A bk lf tp l2 cB cO cR) (k : TL tp l2 c' st n) : LI w A bk lf tp l2 cB cO cR σ left q c' n := by
  obtain ⟨hmu, e1, e2, e3, e4, e5, e6, e7, e8, e9, e10⟩ := X.ne
  exact I.stepM X k.keep (fun a ha => by rw [List.mem_singleton.mp ha]; simp [muts5]) (.inl ⟨fun a ha => by simpa using (hmu a ha).2.2.1, rfl, rfl, rfl⟩) (.inl ⟨⟨by simpa using e2, by simpa using e5⟩, rfl, rfl⟩) (.inr k.tap) (.inl (by simpa using Ne.symm e8)) (.inl (by simpa using Ne.symm e9))
theorem IT.all {A : Ad} {b : Ar} {st : Led} (x : IT A b 4 st) : ItS (A.it b) (sg0.ar b) st := by obtain ⟨v0, v1, v2, v3, n, a0, a1, a2, a3, a4⟩ := x; exact ⟨v0, v1, v2, v3, n, a0, a1, a2, a3, a4⟩
theorem li_start {w : World} {A : Ad} {bk lf tp l2 cB cO cR : Nat} {st : Led} {u1 u2 u3 : Value} (R : FR A bk lf tp l2 cB cO cR st) (bf : BF w bk lf 4 4 st) (IA : IT A .A 4 st) (IW : IT A .W 4 st) (D : ND w A [("I", u1), ("J", u2), ("S$", u3)] st) (v1 : VR st u1 (nm0 .I)) (v2 : VR st u2 (nm0 .J)) (v3 : VR st u3 (nm0 .S)) :
    LI w A bk lf tp l2 cB cO cR sg0 left0 0 0 st := by
  obtain ⟨oN, d1, d2⟩ := D
  obtain ⟨oB, xs, b1, b2, b3, b4⟩ := bf
  exact ⟨R.wd, ⟨⟨oN, u1, u2, u3, d1, d2, v1, v2, v3⟩, fun b => by cases b; exact IA.all; exact IW.all, R.fnr, R.ask⟩, ⟨⟨oB, xs, b1, b2, b3.says (b4 (by decide))⟩, R.left⟩, R.tap, R.cb, R.cr, R.co, R.tab⟩
theorem FR.has {w : World} {A : Ad} {bk lf tp l2 cB cO cR : Nat} {st : Led} (R : FR A bk lf tp l2 cB cO cR st) (bf : BF w bk lf 0 0 st) (IA : IT A .A 0 st) (IW : IT A .W 0 st) {oN : Obj} (hN : (A.aN, oN) ∈ st) : Has (muts5 A bk lf tp cO) st := by
  obtain ⟨-, ⟨v1, n1, m1, -⟩, ⟨v2, n2, m2, -⟩, ⟨v3, n3, m3, -⟩, ⟨⟨kt, nt, m4⟩, -, -, -⟩, -, -, ⟨o3, v, m6, -⟩, ⟨ps, m7, -⟩⟩ := R
  obtain ⟨oB, xs, m8, -⟩ := bf
  obtain ⟨_, _, _, _, _, m9, -⟩ := IA
  obtain ⟨_, _, _, _, _, m10, -⟩ := IW
  intro a ha
  simp only [muts5, Ad.muts, List.mem_cons, List.not_mem_nil, or_false] at ha
  rcases ha with rfl | rfl | rfl | rfl | rfl | rfl | rfl | rfl | rfl | rfl
  · exact ⟨_, m8⟩
  · exact ⟨_, m3⟩
  · exact ⟨_, m4⟩
  · exact ⟨_, m6⟩
  · exact ⟨_, m7⟩
  · exact ⟨_, hN⟩
  · exact ⟨_, m9⟩
  · exact ⟨_, m10⟩
  · exact ⟨_, m2⟩
  · exact ⟨_, m1⟩
theorem law_rest (w : World) (A : Ad) (O : A.Ok w) (bk lf tp l2 L : Nat) (X : Fx A bk lf tp l2 (L + 1) (L + 1 + 1) (L + 1 + 1 + 1)) (p : Program) (loose : List Str) (mean : ExcName → Option Value) (mg mb : Str → Option Value) (dp un : Nat) (gd : Option (List Code)) (a : Addr) (A₀ : Around) (h₀ : Heap) (M : Str → Option Value) (s : Shared)
    (hM1 : M "tape" = some (.ref tp)) (hM2 : M "world" = some (.ref A.wld)) (B : Below A₀ h₀ [] h₀) (Xk : (K w.params).In h₀) (T : Top p loose mean mg mb h₀) (C : CodeHd h₀ 801 799) (hd : dp + 60 < recursionLimit) (hu : un + 8 * 60 < cLine)
    (st : Led) (R : FR A bk lf tp l2 (L + 1) (L + 1 + 1) (L + 1 + 1 + 1) st) (bf : BF w bk lf 0 0 st) (IA : IT A .A 0 st) (IW : IT A .W 0 st) (hN : ∃ oN, (A.aN, oN) ∈ st ∧ DictO w [] oN)
    (F : Fr h₀ L s.heap M) (N : News h₀ L s.heap st) (Q : Flow → Shared → Prop)
    (hQ : ∀ h' tk m' n, (∃ ps, (799, tabObj ps) ∈ n) → Fr h₀ L h' m' → News h₀ L h' n → Q (.ret (.bool true)) { s with heap := h', toks := tk }) :
    wpAny (model PySem.Challenge.rw_pf0018_01.row.prog w) (ktrTop dp un gd (Str.ofString "law") lawR.2 L a (.ref 801) (cellsFrom (L + 1) lawR.2.names []) []) (execs lawR.1 (envX (Str.ofString "law") lawR.2 L a (.ref 801) (cellsFrom (L + 1) lawR.2.names []))) Q (fun _ _ => False) s := by
  k_with_none
  k_with "eval Name" => (k_here; refine' nameX_L ?Aa ?Ba ?_ ?Ca ?Da ?Ea; (case Ca | Da => rfl); (case Ea => decide); (case Aa => k_asm); (case Ba => first | exact hM1 | exact hM2 | assumption); k_whole)
  k_with "eval Name" => (k_here; refine' nameX_C ?Ab ?Bb ?Cb ?Db ?_ ?Eb ?Fb; (case Eb | Fb => rfl); (case Ab => k_asm); (case Bb => rfl); (case Cb => walk_at "m9"); (case Db => assumption); k_whole)
  k_with "exec For Name Call cons nil" => (k_here; (rename Fr _ _ _ _ => lF'); (with_unfolding_all refine' For_invVF lF' ?Ac ?Bc ?_; (case Ac | Bc => exact rfl); k_whole))
  k_with "pyIter ref" => ((rename Fr _ _ _ _ => lF'); (with_reducible rename News _ _ _ _ => lN'); (with_unfolding_all refine iter_tupTurns (by rfl) lF' lN' (List.Mem.head _) (by rfl) (by rfl) ?_); clear lF'; intro J lJ; have hJJ : A.aN ≠ J := Nat.ne_of_lt (lJ _ (.tail _ hN9)); refine word_step w A O bk lf tp l2 L X p loose mean mg mb dp un gd a A₀ h₀ _ _ B Xk T hd hu _ J hJJ _ .I _ [] (by simp) _ _ rfl _ _ (.head _) (fun q hq => Nat.ne_of_lt (lJ q hq)) (R9.wd.keepM (Ms := []) KeepM.cons (by simp)) (b9.keep (Ms := []) KeepM.cons (by simp)) ⟨_, .tail _ hN9, DN⟩ (let ⟨o, h1, h2⟩ := R9.cb; ⟨o, .tail _ h1, h2⟩) (let ⟨o, h1, h2⟩ := R9.cr; ⟨o, .tail _ h1, h2⟩) ?_; intro m1 n1 u1 e1 hl1 ho1 k01 D1 v1; have bf9 := b9; have k1 : KeepM [A.aN] n9 n1 := ⟨fun p hp hn => k01.1 p (.tail _ hp) hn, fun p hp hc => k01.2 p (.tail _ hp) hc⟩; have R1 := R9.keep O.nd X k1 (by simp); have bf1 := bf9.keep k1 nbk; have cb1 := R1.cb; have cr1 := R1.cr; have IA1 := IA9.keep k1 nA; have IW1 := IW9.keep k1 nW; have D1' : ND w A [("I", u1)] n1 := D1; refine word_step w A O bk lf tp l2 L X p loose mean mg mb dp un gd a A₀ h₀ _ _ B Xk T hd hu _ J hJJ _ .J _ [("I", u1)] (by simp) _ _ rfl _ _ hl1 ho1 R1.wd bf1 D1' cb1 cr1 ?_; intro m2 n2 u2 e2 hl2 ho2 k2 D2 v2; have R2 := R1.keep O.nd X k2 (by simp); have bf2 := bf1.keep k2 nbk; have cb2 := R2.cb; have cr2 := R2.cr; have IA2 := IA1.keep k2 nA; have IW2 := IW1.keep k2 nW; have D2' : ND w A [("I", u1), ("J", u2)] n2 := D2; refine word_step w A O bk lf tp l2 L X p loose mean mg mb dp un gd a A₀ h₀ _ _ B Xk T hd hu _ J hJJ _ .S _ [("I", u1), ("J", u2)] (by simp) _ _ rfl _ _ hl2 ho2 R2.wd bf2 D2' cb2 cr2 ?_; intro m3 n3 u3 e3 hl3 ho3 k3 D3 v3; have R3 := R2.keep O.nd X k3 (by simp); have bf3 := bf2.keep k3 nbk; have cb3 := R3.cb; have cr3 := R3.cr; have IA3 := IA2.keep k3 nA; have IW3 := IW2.keep k3 nW; have D3' : ND w A [("I", u1), ("J", u2), ("S$", u3)] n3 := D3; have LI3 := li_start R3 bf3 IA3 IW3 D3' (v1.mono fun p hp hc => k3.2 p (k2.2 p hp hc) hc) (v2.mono fun p hp hc => k3.2 p hp hc) v3; have hT3 := (e3 _ (by decide)).trans ((e2 _ (by decide)).trans ((e1 _ (by decide)).trans hT9)); have hW3 := (e3 _ (by decide)).trans ((e2 _ (by decide)).trans ((e1 _ (by decide)).trans hW9)); refine ItemsRest.zero (fun h' tk' F' N' => ?_))
  k_with "pyIter ref" => ((rename Fr _ _ _ _ => lF'); (with_reducible rename News _ _ _ _ => lN'); (rename IsRange _ _ _ _ _ _ _ _ => lR'); (with_unfolding_all refine iter_rangeUnr (n := 4) (by rfl) lR' (by first | decide | rfl) (by first | decide | rfl) lF' lN' ?_); intro J lJ; refine at_loop w A O bk lf tp l2 L X p loose mean mg mb dp un gd a A₀ h₀ _ _ B Xk T hd hu _ J ?Ad 4 0 _ _ (by omega) ?Bd ?Cd ?Dd ?Ed ?Fd ?Gd ?Hd ?_; (case Ad => exact Has.new h3 (fun p hp => Nat.ne_of_lt (lJ p (by (repeat (first | assumption | apply List.Mem.tail)))))); (case Bd => exact fun p hp => Nat.ne_of_lt (lJ p hp)); (case Cd => exact R.wd.keepM (Ms := []) ⟨fun p hp _ => (by (repeat (first | assumption | apply List.Mem.tail))), fun p hp hc => (by (repeat (first | assumption | apply List.Mem.tail)))⟩ (by simp)); (case Dd => exact bf.keep (Ms := []) ⟨fun p hp _ => (by (repeat (first | assumption | apply List.Mem.tail))), fun p hp hc => (by (repeat (first | assumption | apply List.Mem.tail)))⟩ (by simp)); (case Ed => exact IA.keep (Ms := []) ⟨fun p hp _ => (by (repeat (first | assumption | apply List.Mem.tail))), fun p hp hc => (by (repeat (first | assumption | apply List.Mem.tail)))⟩ (by simp)); (case Fd => exact IW.keep (Ms := []) ⟨fun p hp _ => (by (repeat (first | assumption | apply List.Mem.tail))), fun p hp hc => (by (repeat (first | assumption | apply List.Mem.tail)))⟩ (by simp)); (case Gd => exact ⟨oB, by walk_at "m9", dB⟩); (case Hd => exact ⟨oR, by walk_at "m9", dR⟩); intro h9 tk9 m9 n9 F9 N9 e9 k9 b9 IA9 IW9; have kk : KeepM [bk, A.it .A, A.it .W] st n9 := ⟨fun p hp hn => k9.1 p (by (repeat (first | assumption | apply List.Mem.tail))) hn, fun p hp hc => k9.2 p (by (repeat (first | assumption | apply List.Mem.tail))) hc⟩; have R9 := R.keep O.nd X kk (fun a ha => by (simp only [List.mem_cons, List.not_mem_nil, or_false] at ha; rcases ha with h | h | h <;> simp [h])); have hN9 := kk.1 _ hN nN; have hT9 := (e9 _ (by decide)).trans hM1; have hW9 := (e9 _ (by decide)).trans hM2; obtain ⟨o9, xs9, hb9, B9, S9, tw9⟩ := id b9; obtain ⟨yI, aI, bI⟩ := S9.nm .I; obtain ⟨yJ, aJ, bJ⟩ := S9.nm .J; obtain ⟨yS, aS, bS⟩ := S9.nm .S; obtain ⟨oB9, hB9, dB9⟩ := R9.cb; obtain ⟨oR9, hR9, dR9⟩ := R9.cr; have W9 := R9.wd; have m59 := W9.run; have m69 := W9.dR; have e69 := O.rNo "store" (by simp); have tw := tw9 (by decide))
  k_with "pyIter ref" => (have g9 := LI4; (rename Fr _ _ _ _ => lF'); (with_reducible rename News _ _ _ _ => lN'); (rename IsRange _ _ _ _ _ _ _ _ => lR'); (with_unfolding_all refine iter_rangeUnr (n := 5) (by rfl) lR' (by first | decide | rfl) (by first | decide | rfl) lF' lN' ?_); intro J lJ; have neJ : ∀ {a : Nat} {o : Obj}, (a, o) ∈ n4 → a ≠ J := fun h => Nat.ne_of_lt (lJ _ h); refine rr_m (turnM_eq (M := m3) fun _ _ _ _ => rfl) ?_; refine turn_loop w A O bk lf tp l2 L X p loose mean mg mb dp un gd a A₀ h₀ m3 hT3 hW3 _ _ B Xk T C hd hu _ J (has4.new fun q hq => Nat.ne_of_lt (lJ q hq)) (fun q hq => Nat.ne_of_lt (lJ q (LI4.wd q hq))) ?Ae ?Be ?Ce 5 ?_ 5 0 sg0 left0 0 _ _ _ _ n4 (by omega) (by omega) (by omega) (fun q hq => Nat.ne_of_lt (lJ q hq)) LI4 sg0_ok left0_ok; (case Ae => (obtain ⟨vs, xs, nl, h1, -⟩ := LI4.tap.list; exact neJ h1)); (case Be => (obtain ⟨o, h1, -⟩ := LI4.cb; exact neJ h1)); (case Ce => (obtain ⟨o, h1, -⟩ := LI4.cr; exact neJ h1)); intro h5 tk5 m5 n5 tab5 F5 N5)
  k_with "pyIter ref" => (have g9 := LI4; (rename Fr _ _ _ _ => lF'); (with_reducible rename News _ _ _ _ => lN'); (rename IsRange _ _ _ _ _ _ _ _ => lR'); (with_unfolding_all refine iter_rangeUnr (n := 4) (by rfl) lR' (by first | decide | rfl) (by first | decide | rfl) lF' lN' ?_); intro J lJ; have neJ : ∀ {a : Nat} {o : Obj}, (a, o) ∈ n4 → a ≠ J := fun h => Nat.ne_of_lt (lJ _ h); refine rr_m (turnM_eq (M := m3) fun _ _ _ _ => rfl) ?_; refine turn_loop w A O bk lf tp l2 L X p loose mean mg mb dp un gd a A₀ h₀ m3 hT3 hW3 _ _ B Xk T C hd hu _ J (has4.new fun q hq => Nat.ne_of_lt (lJ q hq)) (fun q hq => Nat.ne_of_lt (lJ q (LI4.wd q hq))) ?Af ?Bf ?Cf 4 ?_ 4 0 sg0 left0 0 _ _ _ _ n4 (by omega) (by omega) (by omega) (fun q hq => Nat.ne_of_lt (lJ q hq)) LI4 sg0_ok left0_ok; (case Af => (obtain ⟨vs, xs, nl, h1, -⟩ := LI4.tap.list; exact neJ h1)); (case Bf => (obtain ⟨o, h1, -⟩ := LI4.cb; exact neJ h1)); (case Cf => (obtain ⟨o, h1, -⟩ := LI4.cr; exact neJ h1)); intro h5 tk5 m5 n5 tab5 F5 N5)
  k_with "pyIter ref" => (have g9 := LI4; (rename Fr _ _ _ _ => lF'); (with_reducible rename News _ _ _ _ => lN'); (rename IsRange _ _ _ _ _ _ _ _ => lR'); (with_unfolding_all refine iter_rangeUnr (n := 3) (by rfl) lR' (by first | decide | rfl) (by first | decide | rfl) lF' lN' ?_); intro J lJ; have neJ : ∀ {a : Nat} {o : Obj}, (a, o) ∈ n4 → a ≠ J := fun h => Nat.ne_of_lt (lJ _ h); refine rr_m (turnM_eq (M := m3) fun _ _ _ _ => rfl) ?_; refine turn_loop w A O bk lf tp l2 L X p loose mean mg mb dp un gd a A₀ h₀ m3 hT3 hW3 _ _ B Xk T C hd hu _ J (has4.new fun q hq => Nat.ne_of_lt (lJ q hq)) (fun q hq => Nat.ne_of_lt (lJ q (LI4.wd q hq))) ?Ag ?Bg ?Cg 3 ?_ 3 0 sg0 left0 0 _ _ _ _ n4 (by omega) (by omega) (by omega) (fun q hq => Nat.ne_of_lt (lJ q hq)) LI4 sg0_ok left0_ok; (case Ag => (obtain ⟨vs, xs, nl, h1, -⟩ := LI4.tap.list; exact neJ h1)); (case Bg => (obtain ⟨o, h1, -⟩ := LI4.cb; exact neJ h1)); (case Cg => (obtain ⟨o, h1, -⟩ := LI4.cr; exact neJ h1)); intro h5 tk5 m5 n5 tab5 F5 N5)
  k_with "pyIter ref" => (have g9 := LI4; (rename Fr _ _ _ _ => lF'); (with_reducible rename News _ _ _ _ => lN'); (rename IsRange _ _ _ _ _ _ _ _ => lR'); (with_unfolding_all refine iter_rangeUnr (n := 2) (by rfl) lR' (by first | decide | rfl) (by first | decide | rfl) lF' lN' ?_); intro J lJ; have neJ : ∀ {a : Nat} {o : Obj}, (a, o) ∈ n4 → a ≠ J := fun h => Nat.ne_of_lt (lJ _ h); refine rr_m (turnM_eq (M := m3) fun _ _ _ _ => rfl) ?_; refine turn_loop w A O bk lf tp l2 L X p loose mean mg mb dp un gd a A₀ h₀ m3 hT3 hW3 _ _ B Xk T C hd hu _ J (has4.new fun q hq => Nat.ne_of_lt (lJ q hq)) (fun q hq => Nat.ne_of_lt (lJ q (LI4.wd q hq))) ?Ah ?Bh ?Ch 2 ?_ 2 0 sg0 left0 0 _ _ _ _ n4 (by omega) (by omega) (by omega) (fun q hq => Nat.ne_of_lt (lJ q hq)) LI4 sg0_ok left0_ok; (case Ah => (obtain ⟨vs, xs, nl, h1, -⟩ := LI4.tap.list; exact neJ h1)); (case Bh => (obtain ⟨o, h1, -⟩ := LI4.cb; exact neJ h1)); (case Ch => (obtain ⟨o, h1, -⟩ := LI4.cr; exact neJ h1)); intro h5 tk5 m5 n5 tab5 F5 N5)
  k_with "call ref" => (refine' Spec.useK (t_next w tp l2 0 n3 LI3.tap ?Ai 4 _ ?Bi) ?Ci ?Di ?Ei ?Fi ?Gi ?Hi ?Ii ?Ji ?_ ?_; (case Ci | Di | Ei | Fi | Gi | Hi => walk_at "u9"); (case Ai | Bi => walk_at "q9"); (case Ii => first | exact hd_le hd rfl | (show dp + _ < _; omega)); (case Ji => first | exact hu_le hu rfl | (show un + _ < _; omega)); rotate_left; exact OutE.none; intro K9 hK9; rintro v n4 h' tk' ⟨x, kx, hx0, hx1, LL4⟩ F' N'; have LI4 := LI3.tape X LL4; have hx9 : x = 0 ∨ x = 1 ∨ x = 2 ∨ x = 3 := (by omega); have has4 := LI4.has; rcases hx9 with rfl | rfl | rfl | rfl; any_goals (refine hK9 _ _ _ ?_))
  revert Xk; k_fill; intro Xk
  obtain ⟨oN, hN, DN⟩ := hN
  obtain ⟨oB, hB, dB⟩ := R.cb
  obtain ⟨oR, hR, dR⟩ := R.cr
  have has := R.has bf IA IW hN
  have h3 : Has [bk, A.it .A, A.it .W] st := fun a h => has a (by simp only [List.mem_cons, List.not_mem_nil, or_false] at h; rcases h with rfl | rfl | rfl <;> simp [muts5, Ad.muts])
  have nN : A.aN ∉ [bk, A.it .A, A.it .W] := by
    have z := X.nd
    simp only [muts5, Ad.muts, List.nodup_cons, List.mem_cons, List.not_mem_nil, or_false, not_or] at z ⊢
    obtain ⟨⟨a1, a2, a3, a4, a5, a6, a7, a8, a9⟩, -, -, -, -, ⟨f1, f2, f3, f4⟩, -⟩ := z
    exact ⟨Ne.symm a5, f1, f2⟩
  have nbk : bk ∉ [A.aN] := by have z := nN; simp only [List.mem_cons, List.not_mem_nil, or_false, not_or] at z ⊢; exact Ne.symm z.1
  have nA : A.it .A ∉ [A.aN] := by have z := nN; simp only [List.mem_cons, List.not_mem_nil, or_false, not_or] at z ⊢; exact Ne.symm z.2.1
  have nW : A.it .W ∉ [A.aN] := by have z := nN; simp only [List.mem_cons, List.not_mem_nil, or_false, not_or] at z ⊢; exact Ne.symm z.2.2
  unfold lawR
  dsimp only
  refine let_all ?_; intro qk ek A9 env9
  k_steps
  all_goals first
    | exact hQ _ _ _ _ tab5 F5 N5
section
theorem keysLit_of {w : World} : ∀ {l : List DictEntry}, (∀ e ∈ l, ∃ k, (strKind PG w).is k e.key = true ∧ e.hash = (strKind PG w).hash k) → KeysLit w.params l
  | [], _ => trivial
  | e :: r, h => by
    obtain ⟨k, h1, h2⟩ := h e (.head _)
    obtain ⟨t, ht⟩ := Value.isStrOf_shape h1
    exact ⟨⟨k, t, ht, h2⟩, keysLit_of fun e' he => h e' (.tail _ he)⟩
theorem dict_lit {w : World} {kvs : List (Str × Value)} {o : Obj} (D : DictO w kvs o) : ∃ es n, o = dictOf es n ∧ KeysLit w.params es ∧ ∀ x v, valueAt kvs x = some v → getL x es = some (some v) := by
  obtain ⟨-, -, -, -, -, hf⟩ := dictO_says D
  obtain ⟨⟨e1, e2, e3⟩, es, ep, hd, hk, hp, hn⟩ := D
  obtain ⟨c, d, dt, sl⟩ := o
  dsimp only at e1 e2 e3 hd
  subst e1 e2 e3 hd
  refine ⟨es.toList, ep, by simp [dictOf], keysLit_of fun e he => hk e (by simpa using he), fun x v hv => ?_⟩
  rw [← hp.find x] at hv
  have q : (fun d : DictEntry => (strKind PG w).is x d.key) = fun d => d.key.isStr x := funext fun d => (isStr_of x d.key).symm
  rw [q] at hv
  unfold getL
  cases h : List.find? (fun d => d.key.isStr x) es.toList with
  | none => rw [h] at hv; cases hv
  | some e => rw [h] at hv; exact congrArg some hv
theorem dictO_of {w : World} {kvs : List (Str × Value)} {o : Obj} (h : o.IsDictOf (PySem.strKind PG w) kvs) : DictO w kvs o := by obtain ⟨es, ep, a, b, c, d, e⟩ := h; exact ⟨a, es, ep, b, c, d, e⟩
theorem entry_of {w : World} {x : Str} {v : Value} {e : DictEntry} (h : ∃ k, (strKind PG w).is k e.key = true ∧ e.hash = (strKind PG w).hash k) (hx : (strKind PG w).is x e.key = true) (hv : e.val = v) : e = BK.entry w (.s x, e.key, v) ∧ ∃ t, e.key = .str x t := by
  obtain ⟨k, h1, h2⟩ := h
  obtain ⟨t, ht⟩ := Value.isStrOf_shape hx
  have hk : k = x := Value.isStrOf_inj _ _ _ h1 hx
  obtain ⟨a, b, c⟩ := e
  dsimp only at h1 h2 hx hv ht ⊢
  subst hv hk
  exact ⟨by unfold BK.entry; rw [h2]; rfl, t, ht⟩
theorem pairs_cons {w : World} {l : List DictEntry} {k : Str} {v : Value} {r : List (Str × Value)} (h : Pairs (strKind PG w) l ((k, v) :: r)) : ∃ e l', l = e :: l' ∧ (strKind PG w).is k e.key = true ∧ e.val = v ∧ Pairs (strKind PG w) l' r := by cases h with | cons a b c => exact ⟨_, _, rfl, a, b, c⟩
theorem pairs_nil {w : World} {l : List DictEntry} (h : Pairs (strKind PG w) l []) : l = [] := by cases h; rfl
theorem book0 {w : World} {st : Led} {o : Obj} {a b c : Tok} {lf : Nat} (D : DictO w [("I", .int 1 a), ("J", .int 2 b), ("S$", .str "ABCD" c), ("left", .ref lf)] o) : ∃ xs, BookO w st o xs ∧ SaysF 0 0 xs lf := by
  obtain ⟨ex, es, ep, hd, hk, hp, hn⟩ := D
  obtain ⟨l⟩ := es
  replace hp : Pairs (strKind PG w) l _ := hp
  obtain ⟨e1, l1, z1, i1, v1, hp⟩ := pairs_cons hp
  obtain ⟨e2, l2, z2, i2, v2, hp⟩ := pairs_cons hp
  obtain ⟨e3, l3, z3, i3, v3, hp⟩ := pairs_cons hp
  obtain ⟨e4, l4, z4, i4, v4, hp⟩ := pairs_cons hp
  have hl : l = [e1, e2, e3, e4] := by rw [z1, z2, z3, z4, pairs_nil hp]
  have hm : ∀ i e, l[i]? = some e → e ∈ (⟨l⟩ : Array DictEntry) := fun i e h => Array.mem_toList_iff.mp (List.mem_of_getElem? h)
  obtain ⟨q1, t1, k1⟩ := entry_of (hk e1 (hm 0 _ (by rw [hl]; rfl))) i1 v1
  obtain ⟨q2, t2, k2⟩ := entry_of (hk e2 (hm 1 _ (by rw [hl]; rfl))) i2 v2
  obtain ⟨q3, t3, k3⟩ := entry_of (hk e3 (hm 2 _ (by rw [hl]; rfl))) i3 v3
  obtain ⟨q4, t4, k4⟩ := entry_of (hk e4 (hm 3 _ (by rw [hl]; rfl))) i4 v4
  refine ⟨[(.s "I", e1.key, .int 1 a), (.s "J", e2.key, .int 2 b), (.s "S$", e3.key, .str "ABCD" c), (.s "left", e4.key, .ref lf)], ⟨ex, _, ep, hd, ?_, ?_, ?_⟩, ⟨fun p => ?_, fun j hj => absurd hj (Nat.not_lt_zero _), fun j hj => absurd hj (Nat.not_lt_zero _), ?_, by simp⟩⟩
  · show l = [_, _, _, _]
    rw [hl, ← q1, ← q2, ← q3, ← q4]
  · intro x hx
    simp only [List.mem_cons, List.not_mem_nil, or_false] at hx
    rcases hx with rfl | rfl | rfl | rfl
    · exact ⟨t1, k1⟩
    · exact ⟨t2, k2⟩
    · exact ⟨t3, k3⟩
    · exact ⟨t4, k4⟩
  · show ([.s "I", .s "J", .s "S$", .s "left"] : List BK).Nodup; decide
  · cases p
    · exact ⟨_, rfl, a, rfl⟩
    · exact ⟨_, rfl, b, rfl⟩
    · exact ⟨_, rfl, c, rfl⟩
  · rfl
noncomputable def startAd (x d aN aArr aK aF aFl nW dR r ask nR ans fnr gA dgA hiA itA nGA nHA gW dgW hiW itW nGW nHW nArr nAns : Nat) (esW esR esGA esGW esArr esAns : List DictEntry) (kA kW : Tok) : Ad :=
  { run := r, dR := dR, wld := x, dW := d, aN := aN, aArr := aArr, aK := aK, aF := aF, aFl := aFl, ans := ans, ask := ask, fnr := fnr, g := fun | .A => gA | .W => gW, dg := fun | .A => dgA | .W => dgW, it := fun | .A => itA | .W => itW, hi := fun | .A => hiA | .W => hiW,
    esR := esR, esW := esW, esArr := esArr, esAns := esAns, esG := fun | .A => esGA | .W => esGW, nR := nR, nW := nW, nArr := nArr, nAns := nAns, nHA := nHA, nHW := nHW, nG := fun | .A => nGA | .W => nGW, kH := fun | .A => kA | .W => kW }
theorem dfl0 {st : Led} {u : Value} (b : Ar) (h : VR st u (if b.isT then .txt "" else .num 0)) : VR st u (dfl b) := by cases b <;> exact h
noncomputable def nth : List Nat → Nat → Nat
  | [], _ => 0
  | a :: _, 0 => a
  | _ :: r, i + 1 => nth r i
noncomputable def Up : List Nat → Prop
  | a :: b :: r => a < b ∧ Up (b :: r)
  | _ => True
theorem Up.lt : ∀ {l : List Nat}, Up l → ∀ {i j : Nat}, i < j → j < l.length → nth l i < nth l j
  | [], _, _, _, _, h => absurd h (Nat.not_lt_zero _)
  | [_], _, i, j, h1, h2 => absurd (Nat.lt_of_lt_of_le h1 (Nat.le_of_lt_succ h2)) (Nat.not_lt_zero _)
  | a :: b :: r, ⟨h, k⟩, 0, 1, _, _ => h
  | a :: b :: r, ⟨h, k⟩, 0, j + 2, _, h2 => Nat.lt_trans h (Up.lt k (i := 0) (j := j + 1) (Nat.succ_pos _) (Nat.lt_of_succ_lt_succ h2))
  | a :: b :: r, ⟨h, k⟩, i + 1, j + 1, h1, h2 => Up.lt k (Nat.lt_of_succ_lt_succ h1) (Nat.lt_of_succ_lt_succ h2)
noncomputable def Inc (N : Nat) (l : List Nat) : Prop := Up l ∧ l.length = N
theorem Inc.lt {N : Nat} {l : List Nat} (h : Inc N l) {i j : Nat} (e : i < j) (k : j < N) : nth l i < nth l j := h.1.lt e (h.2.symm ▸ k)
theorem Inc.ne {N : Nat} {l : List Nat} (h : Inc N l) (i j : Nat) (e : (decide (i ≠ j) && decide (i < N) && decide (j < N)) = true) : nth l i ≠ nth l j := by
  simp only [Bool.and_eq_true, decide_eq_true_eq] at e
  obtain ⟨⟨e1, e2⟩, e3⟩ := e
  rcases Nat.lt_or_gt_of_ne e1 with q | q
  · exact Nat.ne_of_lt (h.lt q e3)
  · exact Nat.ne_of_gt (h.lt q e2)
theorem Inc.not_mem {N : Nat} {l : List Nat} (h : Inc N l) (i : Nat) (js : List Nat) (e : (js.all fun j => decide (i ≠ j) && decide (i < N) && decide (j < N)) = true) : nth l i ∉ js.map (nth l) := fun hm => by
  obtain ⟨j, hj, q⟩ := List.mem_map.mp hm
  exact h.ne i j (List.all_eq_true.mp e j hj) q.symm
theorem Inc.nodup {N : Nat} {l : List Nat} (h : Inc N l) : ∀ is : List Nat, (is.Nodup ∧ ∀ i ∈ is, i < N) → (is.map (nth l)).Nodup
  | [], _ => .nil
  | i :: is, ⟨e1, e2⟩ => by
    obtain ⟨e3, e4⟩ := List.nodup_cons.mp e1
    refine List.nodup_cons.mpr ⟨fun hm => ?_, Inc.nodup h is ⟨e4, fun j hj => e2 j (.tail _ hj)⟩⟩
    obtain ⟨j, hj, q⟩ := List.mem_map.mp hm
    have hij : i ≠ j := fun e => e3 (e ▸ hj)
    exact h.ne i j (by rw [decide_eq_true hij, decide_eq_true (e2 i (.head _)), decide_eq_true (e2 j (.tail _ hj))]; rfl) q.symm
theorem Inc.objs {N : Nat} {l : List Nat} (h : Inc N l) {os : Led} (is js : List Nat) (e : os.map (·.1) = is.map (nth l)) (q : (is.all fun i => js.all fun j => decide (i ≠ j) && decide (i < N) && decide (j < N)) = true) : ∀ p ∈ os, p.1 ∉ js.map (nth l) := fun p hp => by
  have hm : p.1 ∈ is.map (nth l) := e ▸ List.mem_map.mpr ⟨p, hp, rfl⟩
  obtain ⟨i, hi, z⟩ := List.mem_map.mp hm
  exact z ▸ h.not_mem i js (List.all_eq_true.mp q i hi)
theorem Inc.below {N : Nat} {l : List Nat} (h : Inc N l) {a k : Nat} (ha : a < nth l k) (js : List Nat) (e : ∀ j ∈ js, (a ≠ nth l j) ∨ (k ≤ j ∧ j < N)) : a ∉ js.map (nth l) := fun hm => by
  obtain ⟨j, hj, q⟩ := List.mem_map.mp hm
  rcases e j hj with z | ⟨z1, z2⟩
  · exact z q.symm
  · rcases Nat.eq_or_lt_of_le z1 with y | y
    · rw [y] at ha; exact Nat.ne_of_lt ha q.symm
    · exact Nat.ne_of_lt (Nat.lt_trans ha (h.lt y z2)) q.symm
theorem all_cons {α : Type} {P : α → Prop} {a : α} {l : List α} (h : P a) (k : ∀ x ∈ l, P x) : ∀ x ∈ a :: l, P x := List.forall_mem_cons.mpr ⟨h, k⟩
theorem all_nil {α : Type} {P : α → Prop} : ∀ x ∈ ([] : List α), P x := fun _ h => nomatch h
inductive StartN (w : World) (x bk lf tp l2 L : Nat) (n : Led) : Prop | mk (A : Ad) (O : A.Ok w) (e : A.wld = x) (X : Fx A bk lf tp l2 (L + 1) (L + 1 + 1) (L + 1 + 1 + 1)) (R : FR A bk lf tp l2 (L + 1) (L + 1 + 1) (L + 1 + 1 + 1) n) (b : BF w bk lf 0 0 n) (i1 : IT A .A 0 n) (i2 : IT A .W 0 n) (hN : ∃ oN, (A.aN, oN) ∈ n ∧ DictO w [] oN)
theorem start_ok (w : World) (L : Nat) (hL : 799 < L) (x d aN aArr aK aF aFl nW dR r ask nR ans fnr bk lf tp l2 : Nat) (esW esR : List DictEntry) (WW : WldOk esW aN aArr aK aF aFl) (RR : RunOk esR x ask ans)
    (h0 : l2 ≠ L + 1 + 1 ∧ l2 ≠ 799) (h1 : L + 1 + 1 + 1 < tp) (h2 : l2 < tp) (h3 : tp < d) (h4 : d < x) (h5 : x < aN) (h6 : aN < aArr) (h7 : aArr < aK) (h8 : aK < aF) (h9 : aF < aFl) (h10 : aFl < bk) (h11 : bk < lf) (h12 : lf < ans) (h13 : ans < fnr) (h14 : fnr < dR) (h15 : dR < r) (h16 : r < ask)
    (dgA gA hiA itA nGA nHA dgW gW hiW itW nGW nHW : Nat) (esGA esGW : List DictEntry) (uA uW : Value) (kA kW : Tok) (GA : GridOk esGA false hiA itA) (GW : GridOk esGW true hiW itW)
    (g1 : ask < dgA) (g2 : dgA < gA) (g3 : gA < hiA) (g4 : hiA < itA) (g5 : itA < dgW) (g6 : dgW < gW) (g7 : gW < hiW) (g8 : hiW < itW)
    (n : Led) (oA oAns oBk oB oO oR : Obj) (DA : DictO w (stored (stored [] "A" (.ref gA)) "W$" (.ref gW)) oA) (DS : DictO w [("FNR", .ref fnr)] oAns) (a b c : Tok) (DB : DictO w [("I", .int 1 a), ("J", .int 2 b), ("S$", .str "ABCD" c), ("left", .ref lf)] oBk)
    (dB : oB.data = .cell (some (.ref bk))) (dO : ∃ vO, oO.data = .cell vO) (dR' : oR.data = .cell (some (.ref r))) (ys : List Value) (ns : List Int) (hI : IntsAre ys ns) (hy : ys.length ≤ 100) (f1 f2 f3 f4 f5 f6 f7 f8 f9 f10 f11 f12 k0 : Tok) (nT nY nF nL nK : Nat)
    (m1 : (ask, listOf #[] nK) ∈ n) (m2 : (r, instObj 732 dR) ∈ n) (m3 : (dR, dictOf esR nR) ∈ n) (m4 : (fnr, listOf #[.int 1 f1, .int 3 f2, .int 0 f3, .int 2 f4, .int 4 f5, .int 1 f6] nF) ∈ n) (m5 : (ans, oAns) ∈ n) (m6 : (lf, listOf #[.int 1 f7, .int 3 f8, .int 0 f9, .int 2 f10, .int 4 f11, .int 1 f12] nL) ∈ n)
    (m7 : (bk, oBk) ∈ n) (m8 : (aFl, dictOf [] 0) ∈ n) (m9 : (aF, dictOf [] 0) ∈ n) (m10 : (aK, dictOf [] 0) ∈ n) (m11 : (aArr, oA) ∈ n) (m12 : (aN, dictOf [] 0) ∈ n) (m13 : (x, instObj 181 d) ∈ n) (m14 : (d, dictOf esW nW) ∈ n) (m15 : (tp, listOf #[.int 0 k0, .ref l2] nT) ∈ n) (m16 : (l2, listOf ys.toArray nY) ∈ n)
    (m17 : (L + 1 + 1 + 1, oR) ∈ n) (m18 : (L + 1 + 1, oO) ∈ n) (m19 : (L + 1, oB) ∈ n) (m20 : (799, tabObj #[]) ∈ n)
    (y1 : (dgA, dictOf esGA nGA) ∈ n) (y2 : (gA, instObj 263 dgA) ∈ n) (y3 : (hiA, listOf #[.int 3 kA] nHA) ∈ n) (y4 : (itA, listOf #[uA, uA, uA, uA] 0) ∈ n) (y5 : VR n uA (dfl .A)) (z1 : (dgW, dictOf esGW nGW) ∈ n) (z2 : (gW, instObj 263 dgW) ∈ n) (z3 : (hiW, listOf #[.int 3 kW] nHW) ∈ n) (z4 : (itW, listOf #[uW, uW, uW, uW] 0) ∈ n) (z5 : VR n uW (dfl .W)) :
    StartN w x bk lf tp l2 L n := by
  obtain ⟨esArr, nArr, rfl, kArr, vArr⟩ := dict_lit DA
  obtain ⟨esAns, nAns, rfl, kAns, vAns⟩ := dict_lit DS
  obtain ⟨xs, BB, SS⟩ := book0 (st := n) DB
  have inc : Inc 27 [799, L + 1, L + 1 + 1, L + 1 + 1 + 1, tp, d, x, aN, aArr, aK, aF, aFl, bk, lf, ans, fnr, dR, r, ask, dgA, gA, hiA, itA, dgW, gW, hiW, itW] := ⟨⟨Nat.lt_succ_of_lt hL, Nat.lt_succ_self _, Nat.lt_succ_self _, h1, h3, h4, h5, h6, h7, h8, h9, h10, h11, h12, h13, h14, h15, h16, g1, g2, g3, g4, g5, g6, g7, g8, trivial⟩, rfl⟩
  refine ⟨startAd x d aN aArr aK aF aFl nW dR r ask nR ans fnr gA dgA hiA itA nGA nHA gW dgW hiW itW nGW nHW nArr nAns esW esR esGA esGW esArr esAns kA kW, ?ok, rfl, ?fx, ?fr, ⟨_, xs, m7, BB, SS, fun h => absurd h (Nat.lt_irrefl 0)⟩, ⟨_, _, _, _, _, y4, y5, y5, y5, y5⟩, ⟨_, _, _, _, _, z4, z5, z5, z5, z5⟩, ⟨_, m12, ⟨rfl, rfl, rfl⟩, #[], 0, rfl, fun _ h => absurd h (Array.not_mem_empty _), .nil, .nil⟩⟩
  case ok =>
    exact ⟨inc.nodup [7, 22, 26, 18, 15] (by decide), inc.objs [17, 16, 6, 5, 8, 9, 10, 11, 14, 20, 19, 21, 24, 23, 25] [7, 22, 26, 18, 15] rfl (by decide), RR.rWorld, RR.rAsked, RR.rAnswers, RR.rBits, RR.rDigits, RR.rNo, WW.names, WW.arrays, WW.kinds, WW.fns, WW.fields, WW.bits, WW.digits, fun | .A => vArr _ _ (by rfl) | .W => vArr _ _ (by rfl), kArr,
      fun | .A => GA.kind | .W => GW.kind, fun | .A => GA.highs | .W => GW.highs, fun | .A => GA.base | .W => GW.base, fun | .A => GA.items | .W => GW.items, vAns _ _ (by rfl), kAns⟩
  case fx =>
    exact ⟨inc.nodup [12, 13, 4, 2, 0, 7, 22, 26, 18, 15] (by decide), inc.objs [17, 16, 6, 5, 8, 9, 10, 11, 14, 20, 19, 21, 24, 23, 25] [12, 13, 4, 2, 0, 7, 22, 26, 18, 15] rfl (by decide), inc.below (k := 4) h2 [12, 13, 4, 2, 0, 7, 22, 26, 18, 15] (all_cons (.inr (by decide)) (all_cons (.inr (by decide)) (all_cons (.inr (by decide)) (all_cons (.inl h0.1) (all_cons (.inl h0.2) (all_cons (.inr (by decide)) (all_cons (.inr (by decide)) (all_cons (.inr (by decide)) (all_cons (.inr (by decide)) (all_cons (.inr (by decide)) all_nil)))))))))),
      inc.not_mem 1 [12, 13, 4, 2, 0, 7, 22, 26, 18, 15] (by decide), inc.not_mem 3 [12, 13, 4, 2, 0, 7, 22, 26, 18, 15] (by decide)⟩
  case fr =>
    exact ⟨(all_cons m2 (all_cons m3 (all_cons m13 (all_cons m14 (all_cons m11 (all_cons m10 (all_cons m9 (all_cons m8 (all_cons m5 (all_cons y2 (all_cons y1 (all_cons y3 (all_cons z2 (all_cons z1 (all_cons z3 all_nil))))))))))))))), ⟨[.int 1 f1, .int 3 f2, .int 0 f3, .int 2 f4, .int 4 f5, .int 1 f6], _, m4, .cons _ _ (.cons _ _ (.cons _ _ (.cons _ _ (.cons _ _ (.cons _ _ .nil)))))⟩, ⟨_, _, m1, Nat.le_refl _⟩, ⟨[.int 1 f7, .int 3 f8, .int 0 f9, .int 2 f10, .int 4 f11, .int 1 f12], _, m6, .cons _ _ (.cons _ _ (.cons _ _ (.cons _ _ (.cons _ _ (.cons _ _ .nil)))))⟩,
      ⟨⟨_, _, m15⟩, ⟨ys, ns, _, m16, hI, hy⟩, Nat.ne_of_lt h2, Int.le_refl _⟩, ⟨_, m19, dB⟩, ⟨_, m17, dR'⟩, (let ⟨vO, e⟩ := dO; ⟨_, vO, m18, e⟩), ⟨#[], m20, trivial, fun pos v h => (nomatch h)⟩⟩
theorem start2 {w : World} {L : Nat} (hL : 799 < L) {x d aN aArr aK aF aFl nW dR r ask nR ans fnr bk lf tp l2 hl hl2 aT sc2 : Nat} {esW esR : List DictEntry} (WW : WldOk esW aN aArr aK aF aFl) (RR : RunOk esR x ask ans)
    {f1 f2 f3 f4 f5 f6 f7 f8 f9 f10 f11 f12 k0 t3 t4 : Tok} {nT nF nL nK nH nH2 : Nat} {oAns oBk oT oS oB oO oR oA : Obj} {ys : List Value} {n1 n : Led}
    (hsubA : ∀ p ∈ ([(hl, listOf #[.int 3 t3] nH), (ask, listOf #[] nK), (r, instObj 732 dR), (dR, dictOf esR nR), (fnr, listOf #[.int 1 f1, .int 3 f2, .int 0 f3, .int 2 f4, .int 4 f5, .int 1 f6] nF), (ans, oAns), (lf, listOf #[.int 1 f7, .int 3 f8, .int 0 f9, .int 2 f10, .int 4 f11, .int 1 f12] nL), (bk, oBk), (aT, oT), (aFl, dictOf [] 0), (aF, dictOf [] 0), (aK, dictOf [] 0), (aArr, dictOf [] 0), (aN, dictOf [] 0), (x, instObj 181 d), (d, dictOf esW nW), (tp, listOf #[.int 0 k0, .ref l2] nT), (l2, LCg.lst ys), (sc2, oS), (L + 1 + 1 + 1, oR), (L + 1 + 1, oO), (L + 1, oB), (799, tabObj #[])] : Led), p.1 ≠ aArr → p ∈ n1) (hsubW : ∀ p ∈ (hl2, listOf #[.int 3 t4] nH2) :: n1, p.1 ≠ aArr → p ∈ n)
    (hord : (@Ne Nat l2 (L + 1 + 1) ∧ @Ne Nat l2 799) ∧ @LT.lt Nat _ (L + 1 + 1 + 1) tp ∧ @LT.lt Nat _ l2 tp ∧ @LT.lt Nat _ tp d ∧ @LT.lt Nat _ d x ∧ @LT.lt Nat _ x aN ∧ @LT.lt Nat _ aN aArr ∧ @LT.lt Nat _ aArr aK ∧ @LT.lt Nat _ aK aF ∧ @LT.lt Nat _ aF aFl ∧ @LT.lt Nat _ aFl bk ∧ @LT.lt Nat _ bk lf ∧ @LT.lt Nat _ lf ans ∧ @LT.lt Nat _ ans fnr ∧ @LT.lt Nat _ fnr dR ∧ @LT.lt Nat _ dR r ∧ @LT.lt Nat _ r ask)
    {dgA gA hiA itA nGA nHA dgW gW hiW itW nGW nHW : Nat} {esGA esGW : List DictEntry} {uA uW : Value} {kA kW : Tok} (GA : GridOk esGA false hiA itA) (GW : GridOk esGW true hiW itW)
    (g1 : @LT.lt Nat _ ask dgA) (g2 : dgA < gA) (g3 : gA < hiA) (g4 : hiA < itA) (wl : ∀ p ∈ (hl2, listOf #[.int 3 t4] nH2) :: n1, @LT.lt Nat _ p.1 dgW) (g6 : dgW < gW) (g7 : gW < hiW) (g8 : hiW < itW)
    (TN : ∀ p ∈ n1, p.2.cls = .type "tuple" → p.1 ≠ aArr) (z2 : (dgA, dictOf esGA nGA) ∈ n1) (z3 : (gA, instObj 263 dgA) ∈ n1) (z4 : (hiA, listOf #[.int 3 kA] nHA) ∈ n1) (z5 : (itA, listOf #[uA, uA, uA, uA] 0) ∈ n1) (VA : VR n1 uA (if Ar.A.isT then .txt "" else .num 0))
    (w1 : (aArr, oA) ∈ n) (DW : DictO w (stored (stored [] "A" (.ref gA)) "W$" (.ref gW)) oA) (w2 : (dgW, dictOf esGW nGW) ∈ n) (w3 : (gW, instObj 263 dgW) ∈ n) (w4 : (hiW, listOf #[.int 3 kW] nHW) ∈ n) (w5 : (itW, listOf #[uW, uW, uW, uW] 0) ∈ n) (VW : VR n uW (if Ar.W.isT then .txt "" else .num 0))
    {a b c a' b' c' d' e' : Tok} (DS : oAns.IsDictOf (PySem.strKind PG w) (strPairs [(.str "FNR" a', .ref fnr)])) (DB : oBk.IsDictOf (PySem.strKind PG w) (strPairs [(.str "I" b', .int 1 a), (.str "J" c', .int 2 b), (.str "S$" d', .str "ABCD" c), (.str "left" e', .ref lf)]))
    (dB : oB.data = .cell (some (.ref bk))) {vO : Option Value} (dO : oO.data = .cell vO) (dR' : oR.data = .cell (some (.ref r))) {ns : List Int} (hI : IntsAre ys ns) (hy : ys.length ≤ 100) :
    StartN w x bk lf tp l2 L n := by
  obtain ⟨h0, h1, h2, h3, h4, h5, h6, h7, h8, h9, h10, h11, h12, h13, h14, h15, h16⟩ := hord
  have g5 : itA < dgW := wl _ (.tail _ z5)
  have inc : Inc 23 [799, L + 1, L + 1 + 1, L + 1 + 1 + 1, tp, d, x, aN, aArr, aK, aF, aFl, bk, lf, ans, fnr, dR, r, ask, dgA, gA, hiA, itA] := ⟨⟨Nat.lt_succ_of_lt hL, Nat.lt_succ_self _, Nat.lt_succ_self _, h1, h3, h4, h5, h6, h7, h8, h9, h10, h11, h12, h13, h14, h15, h16, g1, g2, g3, g4, trivial⟩, rfl⟩
  have up : ∀ p ∈ ([(hl, listOf #[.int 3 t3] nH), (ask, listOf #[] nK), (r, instObj 732 dR), (dR, dictOf esR nR), (fnr, listOf #[.int 1 f1, .int 3 f2, .int 0 f3, .int 2 f4, .int 4 f5, .int 1 f6] nF), (ans, oAns), (lf, listOf #[.int 1 f7, .int 3 f8, .int 0 f9, .int 2 f10, .int 4 f11, .int 1 f12] nL), (bk, oBk), (aT, oT), (aFl, dictOf [] 0), (aF, dictOf [] 0), (aK, dictOf [] 0), (aArr, dictOf [] 0), (aN, dictOf [] 0), (x, instObj 181 d), (d, dictOf esW nW), (tp, listOf #[.int 0 k0, .ref l2] nT), (l2, LCg.lst ys), (sc2, oS), (L + 1 + 1 + 1, oR), (L + 1 + 1, oO), (L + 1, oB), (799, tabObj #[])] : Led), p.1 ≠ aArr → p ∈ n := fun p hp ne => hsubW p (.tail _ (hsubA p hp ne)) ne
  have VA' : VR n uA (dfl .A) := (dfl0 .A VA).mono fun p hp hc => hsubW p (.tail _ hp) (TN p hp hc)
  exact start_ok w L hL x d aN aArr aK aF aFl nW dR r ask nR ans fnr bk lf tp l2 esW esR WW RR h0 h1 h2 h3 h4 h5 h6 h7 h8 h9 h10 h11 h12 h13 h14 h15 h16 dgA gA hiA itA nGA nHA dgW gW hiW itW nGW nHW esGA esGW uA uW kA kW GA GW g1 g2 g3 g4 g5 g6 g7 g8 n oA oAns oBk oB oO oR DW (dictO_of DS) a b c (dictO_of DB) dB ⟨vO, dO⟩ dR' ys ns hI hy f1 f2 f3 f4 f5 f6 f7 f8 f9 f10 f11 f12 k0 nT _ nF nL nK
    (up _ (.tail _ (.head _)) (inc.ne 18 8 (by decide))) (up _ (.tail _ (.tail _ (.head _))) (inc.ne 17 8 (by decide))) (up _ (.tail _ (.tail _ (.tail _ (.head _)))) (inc.ne 16 8 (by decide))) (up _ (.tail _ (.tail _ (.tail _ (.tail _ (.head _))))) (inc.ne 15 8 (by decide))) (up _ (.tail _ (.tail _ (.tail _ (.tail _ (.tail _ (.head _)))))) (inc.ne 14 8 (by decide))) (up _ (.tail _ (.tail _ (.tail _ (.tail _ (.tail _ (.tail _ (.head _))))))) (inc.ne 13 8 (by decide))) (up _ (.tail _ (.tail _ (.tail _ (.tail _ (.tail _ (.tail _ (.tail _ (.head _)))))))) (inc.ne 12 8 (by decide))) (up _ (.tail _ (.tail _ (.tail _ (.tail _ (.tail _ (.tail _ (.tail _ (.tail _ (.tail _ (.head _)))))))))) (inc.ne 11 8 (by decide))) (up _ (.tail _ (.tail _ (.tail _ (.tail _ (.tail _ (.tail _ (.tail _ (.tail _ (.tail _ (.tail _ (.head _))))))))))) (inc.ne 10 8 (by decide))) (up _ (.tail _ (.tail _ (.tail _ (.tail _ (.tail _ (.tail _ (.tail _ (.tail _ (.tail _ (.tail _ (.tail _ (.head _)))))))))))) (inc.ne 9 8 (by decide))) w1 (up _ (.tail _ (.tail _ (.tail _ (.tail _ (.tail _ (.tail _ (.tail _ (.tail _ (.tail _ (.tail _ (.tail _ (.tail _ (.tail _ (.head _)))))))))))))) (inc.ne 7 8 (by decide))) (up _ (.tail _ (.tail _ (.tail _ (.tail _ (.tail _ (.tail _ (.tail _ (.tail _ (.tail _ (.tail _ (.tail _ (.tail _ (.tail _ (.tail _ (.head _))))))))))))))) (inc.ne 6 8 (by decide))) (up _ (.tail _ (.tail _ (.tail _ (.tail _ (.tail _ (.tail _ (.tail _ (.tail _ (.tail _ (.tail _ (.tail _ (.tail _ (.tail _ (.tail _ (.tail _ (.head _)))))))))))))))) (inc.ne 5 8 (by decide))) (up _ (.tail _ (.tail _ (.tail _ (.tail _ (.tail _ (.tail _ (.tail _ (.tail _ (.tail _ (.tail _ (.tail _ (.tail _ (.tail _ (.tail _ (.tail _ (.tail _ (.head _))))))))))))))))) (inc.ne 4 8 (by decide))) (up _ (.tail _ (.tail _ (.tail _ (.tail _ (.tail _ (.tail _ (.tail _ (.tail _ (.tail _ (.tail _ (.tail _ (.tail _ (.tail _ (.tail _ (.tail _ (.tail _ (.tail _ (.head _)))))))))))))))))) (Nat.ne_of_lt (Nat.lt_trans h2 (inc.lt (i := 4) (j := 8) (by decide) (by decide))))) (up _ (.tail _ (.tail _ (.tail _ (.tail _ (.tail _ (.tail _ (.tail _ (.tail _ (.tail _ (.tail _ (.tail _ (.tail _ (.tail _ (.tail _ (.tail _ (.tail _ (.tail _ (.tail _ (.tail _ (.head _)))))))))))))))))))) (inc.ne 3 8 (by decide))) (up _ (.tail _ (.tail _ (.tail _ (.tail _ (.tail _ (.tail _ (.tail _ (.tail _ (.tail _ (.tail _ (.tail _ (.tail _ (.tail _ (.tail _ (.tail _ (.tail _ (.tail _ (.tail _ (.tail _ (.tail _ (.head _))))))))))))))))))))) (inc.ne 2 8 (by decide))) (up _ (.tail _ (.tail _ (.tail _ (.tail _ (.tail _ (.tail _ (.tail _ (.tail _ (.tail _ (.tail _ (.tail _ (.tail _ (.tail _ (.tail _ (.tail _ (.tail _ (.tail _ (.tail _ (.tail _ (.tail _ (.tail _ (.head _)))))))))))))))))))))) (inc.ne 1 8 (by decide))) (up _ (.tail _ (.tail _ (.tail _ (.tail _ (.tail _ (.tail _ (.tail _ (.tail _ (.tail _ (.tail _ (.tail _ (.tail _ (.tail _ (.tail _ (.tail _ (.tail _ (.tail _ (.tail _ (.tail _ (.tail _ (.tail _ (.tail _ (.head _))))))))))))))))))))))) (inc.ne 0 8 (by decide))) (hsubW _ (.tail _ z2) (inc.ne 19 8 (by decide))) (hsubW _ (.tail _ z3) (inc.ne 20 8 (by decide))) (hsubW _ (.tail _ z4) (inc.ne 21 8 (by decide))) (hsubW _ (.tail _ z5) (inc.ne 22 8 (by decide))) VA' w2 w3 w4 w5 (dfl0 .W VW)
end
noncomputable def lawP : List Stmt × Scope := by
  refine' (fun (α : Prop) (_ : α) (k : List Stmt × Scope) => k) (lawSt = .FunctionDef _ _ (?az9 :: ?bz9 :: ?cz9 :: ?dz9 :: ?ez9 :: _) _ _ _ ?scz9 _ _ _) ?hz9 ([?az9, ?bz9, ?cz9, ?dz9, ?ez9], ?scz9)
  case hz9 => exact rfl
section
variable {prog : Program} {w : World} {A : Around} {h₀ : Heap} {L : Addr} {m : Str → Option Value} {env : Env} {elt : Expr} {x : Str} {scope : Scope} {cl : List (Str × Addr)} {s : Shared} {S : Led → Prop} {Fin : List Value → Led → Prop} {news : Led}
theorem rest_ints {vs : List Value} {ns : List Int} (hi : IntsAre vs ns)
    (turn : ∀ k t I oI C oC D m₂ ys h tk (E' : Value → Shared → Prop), LCg.NsObj oC m₂ → m₂ x = some (.int k t) → Fr h₀ L h m → News h₀ L h ((I, oI) :: (C, oC) :: (D, LCg.lst ys) :: news) → LCg.Off3 I C D news → ((@Ne Nat I C) ∧ (@Ne Nat I D) ∧ (@Ne Nat C D)) →
      wpAny (model prog w) A (eval elt (compEnvC scope cl C env)) (LCg.CompEnd h₀ L m { s with heap := h, toks := tk } I oI C oC D (LCg.lst ys) S (fun y news' => news' = news ∧ ∃ r t, y = .int r t)) E' { s with heap := h, toks := tk })
    (fin : ∀ ys ns', IntsAre ys ns' → ys.length = vs.length → Fin ys news) : LCg.CompRest prog w A h₀ L m env elt x scope cl s S (fun i v => vs.toArray[i]? = some v) Fin vs.toArray.size 0 [] news := by
  have key : ∀ (j i : Nat) (ys : List Value), i + j = vs.length → ys.length = i → (∃ ns', IntsAre ys ns') → LCg.CompRest prog w A h₀ L m env elt x scope cl s S (fun i v => vs.toArray[i]? = some v) Fin j i ys news := by
    intro j
    induction j with
    | zero =>
      rintro i ys hi hl ⟨ns', hy⟩
      exact LCg.CompRest.zero (fin ys ns' hy (by omega))
    | succ j ih =>
      rintro i ys hij hl ⟨ns', hy⟩
      refine LCg.CompRest.succ ?_
      intro v I oI C oC D m₂ h tk E' hv hC hx F N off ne
      obtain ⟨k, t, hv', hk⟩ := IntsAre.at hi i v (by simpa using hv)
      rw [hv'] at hx
      refine wpAny_mono (turn k t I oI C oC D m₂ ys h tk E' hC hx F N off ne) (fun y s₂ hq => ?_) fun _ _ e => e
      obtain ⟨h', tk', nw, e, F', N', off', hS, hn, r, t', hy'⟩ := hq
      rw [hn] at N' off' hS
      refine ⟨h', tk', news, e, F', N', off', hS, ?_⟩
      rw [hy']
      exact ih (i + 1) _ (by omega) (by rw [List.length_append, List.length_singleton, hl]) ⟨_, IntsAre.append hy (.cons r t' .nil)⟩
  have z := key vs.length 0 [] (by omega) rfl ⟨[], .nil⟩
  rw [List.size_toArray]
  exact z
end
theorem top_eq {n : Str} {sc : Scope} {L a : Addr} {cd : Value} : callerA.deeper (envOfC n sc L a cd) = ktrTop (callerA.depth + 1) (callerA.units + 3) (some []) n sc L a cd (cellsFrom (L + 1) sc.names []) [] := rfl
theorem env_eq {n : Str} {sc : Scope} {L a : Addr} {cd : Value} : envOfC n sc L a cd = envX n sc L a cd (cellsFrom (L + 1) sc.names []) := rfl
theorem dictO_nil {w : World} {n : Nat} : DictO w [] (dictOf [] n) := ⟨⟨rfl, rfl, rfl⟩, #[], n, rfl, (fun _ h => by simp at h), .nil, .nil⟩
theorem s_dim1 (w : World) (st : Led) (x d aN aArr aK aF aFl nW : Nat) (esW : List DictEntry) (hx : (x, instObj 181 d) ∈ st) (hd9 : (d, dictOf esW nW) ∈ st) (WW : WldOk esW aN aArr aK aF aFl) (hl : Nat) (hm : ∃ nh kh, (hl, listOf #[.int 3 kh] nh) ∈ st) (hK : (aK, dictOf [] 0) ∈ st) (hA : (aArr, dictOf [] 0) ∈ st) (hne : x < aArr ∧ d < aArr ∧ aArr < aK ∧ aArr < hl) (k : Tok) : Spec w 295 [.ref x, .str "A" k, .ref hl] 14 st (fun v n => ∃ kh, DimN w kh st .A aArr [] v n) (fun _ _ => False) := by
  obtain ⟨nh, kh, hm⟩ := hm
  exact (s_dim w st x d aN aArr aK aF aFl nW esW hx hd9 WW hl nh kh hm hK _ [] hA dictO_nil .A rfl (by decide) (by omega) k).mono (fun v n h => ⟨kh, h⟩) (fun _ _ h => h)
theorem s_dim2 (w : World) (st : Led) (x d aN aArr aK aF aFl nW : Nat) (esW : List DictEntry) (gA : Nat) (oA : Obj) (hx : (x, instObj 181 d) ∈ st) (hd9 : (d, dictOf esW nW) ∈ st) (WW : WldOk esW aN aArr aK aF aFl) (hl : Nat) (hm : ∃ nh kh, (hl, listOf #[.int 3 kh] nh) ∈ st) (hK : (aK, dictOf [] 0) ∈ st) (hA : (aArr, oA) ∈ st) (D : DictO w [("A", .ref gA)] oA) (hne : x < aArr ∧ d < aArr ∧ aArr < aK ∧ aArr < hl) (k : Tok) : Spec w 295 [.ref x, .str "W$" k, .ref hl] 14 st (fun v n => ∃ kh, DimN w kh st .W aArr [("A", .ref gA)] v n) (fun _ _ => False) := by
  obtain ⟨nh, kh, hm⟩ := hm
  exact (s_dim w st x d aN aArr aK aF aFl nW esW hx hd9 WW hl nh kh hm hK _ _ hA D .W rfl (by show 1 ≤ 1000; omega) (by omega) k).mono (fun v n h => ⟨kh, h⟩) (fun _ _ h => h)
theorem ltL {d : Nat} {l : Led} (h : AllLt d l) : ∀ p ∈ l, @LT.lt Nat _ p.1 d := fun p hp => ktn_ltOf h p hp
theorem ltU {d x : Nat} {l : Led} (h : ∀ p ∈ l, @LT.lt Nat _ p.1 d) (j : @LT.lt Nat _ d x) : ∀ p ∈ l, @LT.lt Nat _ p.1 x := fun p hp => Nat.lt_trans (h p hp) j
theorem ltM {D a : Nat} {o : Obj} {l : Led} (h : ∀ p ∈ l, @LT.lt Nat _ p.1 D) (hm : (a, o) ∈ l) : @LT.lt Nat _ a D := h _ hm
theorem law_pre (w : World) (L : Nat) (p : Program) (loose : List Str) (mean : ExcName → Option Value) (mg mb : Str → Option Value) (dp un : Nat) (gd : Option (List Code)) (a : Addr) (A₀ : Around) (h₀ : Heap) (M : Str → Option Value) (s : Shared)
    (scr : Nat) (vs : List Value) (ns : List Int) (hM0 : M "script" = some (.ref scr)) (hscr : h₀.IsList scr vs.toArray) (hvs : IntsAre vs ns) (hns : ns.length ≤ 63) (B : Below A₀ h₀ [] h₀) (Xk : (K w.params).In h₀) (T : Top p loose mean mg mb h₀) (C : CodeHd h₀ 801 799) (hd : dp + 70 < recursionLimit) (hu : un + 8 * 70 < cLine)
    (oB oO oR : Obj) (vB vO vR : Option Value) (dB : oB.data = .cell vB) (dO : oO.data = .cell vO) (dR : oR.data = .cell vR) (hL : 799 < L)
    (F : Fr h₀ L s.heap M) (N : News h₀ L s.heap [(L + 1 + 1 + 1, oR), (L + 1 + 1, oO), (L + 1, oB), (799, tabObj #[])]) (Q : Flow → Shared → Prop)
    (hQ : ∀ h' tk m' n (A : Ad) (bk lf tp l2 : Nat), A.Ok w → Fx A bk lf tp l2 (L + 1) (L + 1 + 1) (L + 1 + 1 + 1) → FR A bk lf tp l2 (L + 1) (L + 1 + 1) (L + 1 + 1 + 1) n → BF w bk lf 0 0 n → IT A .A 0 n → IT A .W 0 n → (∃ oN, (A.aN, oN) ∈ n ∧ DictO w [] oN) → m' "tape" = some (.ref tp) → m' "world" = some (.ref A.wld) → Fr h₀ L h' m' → News h₀ L h' n → Q .next { s with heap := h', toks := tk }) :
    wpAny (model PySem.Challenge.rw_pf0018_01.row.prog w) (ktrTop dp un gd (Str.ofString "law") lawP.2 L a (.ref 801) (cellsFrom (L + 1) lawP.2.names []) []) (execs lawP.1 (envX (Str.ofString "law") lawP.2 L a (.ref 801) (cellsFrom (L + 1) lawP.2.names []))) Q (fun _ _ => False) s := by
  k_with_none
  k_with "call builtin:abs" => (refine call_abs_nn (by omega) ?_; intro _ _)
  k_with "subscriptTail Name Slice ref ref" => ((with_reducible show wpAny _ _ (subscriptTail _ (PySem.Expr.Slice _ _ none _) (Value.ref _) (Value.ref _)) _ _ _); refine' kmk_slice_ints (s := ⟨_, _, _, _, _⟩) ?Aa ?Ba ?Ca ?Da ?Ea ?Fa ?Ga ?Ha ?_ ?Ia ?Ja ?Ka; (case Aa | Ba => k_asm); (case Ca => kmk_list); (case Da | Ea => kmk_part); (case Fa => l_ints); (case Ga => kmk_nums); (case Ha => kmk_len); (case Ia => with_unfolding_all rfl); (case Ja => kmk_pure); (case Ka => kmk_size); intro D' ws' h' F' N' l1 hI' hC' hL'; (try simp only [Int.reduceNeg, Int.neg_neg, Int.reduceToNat] at hI' hC' hL'); (try k_lt l1); (try k_sweep))
  k_with "call ref" => (refine' Spec.useK (s_World w _) ?Ab ?Bb ?Cb ?Db ?Eb ?Fb ?Gb ?Hb ?_ ?_; (case Ab | Bb | Cb | Db | Eb | Fb => walk_at "u9"); (case Gb => first | exact hd_le hd rfl | (show dp + _ < _; omega)); (case Hb => first | exact hu_le hu rfl | (show un + _ < _; omega)); rotate_left; exact OutE.none; intro K9 hK9; rintro v n h' tk' ⟨d, x, aN, aArr, aK, aF, aFl, nW, esW, rfl, rfl, WW, l9, j1, j2, j3, j4, j5, j6⟩ F' N'; (try dsimp +zetaDelta only [AllLt] at l9); have r1 := ltL (d := d) (l := [(L + 1 + 1 + 1, oR), (L + 1 + 1, oO), (L + 1, oB)]) ⟨l9.2.2.2.1, l9.2.2.2.2.1, l9.2.2.2.2.2.1, trivial⟩; have r2 := ltU r1 j1; have r3 := ltU r2 j2; have r4 := ltU r3 j3; have r5 := ltU r4 j4; have r6 := ltU r5 j5; have r7 := ltU r6 j6; (try simp only [AllLt, and_true] at l9); any_goals (refine hK9 _ _ _ ?_))
  k_with "call ref" => (refine' Spec.useK (s_WorkRun w _ x d _ aN aArr aK aF aFl nW esW ?Ac ?Bc WW) ?Cc ?Dc ?Ec ?Fc ?Gc ?Hc ?Ic ?Jc ?_ ?_; (case Cc | Dc | Ec | Fc | Gc | Hc => walk_at "u9"); (case Ac | Bc => walk_at "m9"); (case Ic => first | exact hd_le hd rfl | (show dp + _ < _; omega)); (case Jc => first | exact hu_le hu rfl | (show un + _ < _; omega)); rotate_left; exact OutE.none; intro K9 hK9; rintro v n h' tk' ⟨dR, r, ask, nR, esR, rfl, rfl, RR, l8, i1, i2⟩ F' N'; (try simp only [AllLt, and_true] at l8); any_goals (refine hK9 _ _ _ ?_))
  k_with "call ref" => (refine' Spec.useK (s_dim1 w _ x d aN aArr aK aF aFl nW esW ?Ad ?Bd WW _ ?Cd ?Dd ?Ed ?Fd _) ?Gd ?Hd ?Id ?Jd ?Kd ?Ld ?Md ?Nd ?_ ?_; (case Gd | Hd | Id | Jd | Kd | Ld => walk_at "u9"); (case Ad | Bd => walk_at "m9"); (case Cd => exact ⟨_, _, by walk_at "m9"⟩); (case Dd | Ed => walk_at "m9"); (case Fd => first | exact ⟨Nat.lt_trans j2 j3, Nat.lt_trans j1 (Nat.lt_trans j2 j3), j4, by (apply ltM; assumption; walk_at "m9")⟩ | omega | (dsimp only; omega)); (case Md => first | exact hd_le hd rfl | (show dp + _ < _; omega)); (case Nd => first | exact hu_le hu rfl | (show un + _ < _; omega)); rotate_left; exact OutE.none; intro K9 hK9; rintro v n h' tk' ⟨kA, rfl, hsubA, dgA, gA, hiA, itA, nGA, nHA, esGA, uA, oA, z1, DA, z2, z3, z4, z5, VA, GA, zl, zg1, zg2, zg3⟩ F' N'; have hx1 := hsubA (x, instObj 181 d) (by walk_at "m9") (Nat.ne_of_lt (Nat.lt_trans j2 j3)); have hd1 := hsubA (d, dictOf esW nW) (by walk_at "m9") (Nat.ne_of_lt (Nat.lt_trans j1 (Nat.lt_trans j2 j3))); have hk1 := hsubA (aK, dictOf [] 0) (by walk_at "m9") (Nat.ne_of_gt j4); have TN1 := tup_ne N' z1 (dictO_nt DA); have zAsk := zl (ask, listOf #[] 0) (by walk_at "m9"); any_goals (refine hK9 _ _ _ ?_))
  k_with "call ref" => (refine' Spec.useK (s_dim2 w _ x d aN aArr aK aF aFl nW esW gA oA ?Ae ?Be WW _ ?Ce ?De ?Ee DA ?Fe _) ?Ge ?He ?Ie ?Je ?Ke ?Le ?Me ?Ne ?_ ?_; (case Ge | He | Ie | Je | Ke | Le => walk_at "u9"); (case Ae => exact .tail _ hx1); (case Be => exact .tail _ hd1); (case Ce => exact ⟨_, _, .head _⟩); (case De => exact .tail _ hk1); (case Ee => exact .tail _ z1); (case Fe => (rename ∀ p : Addr × Obj, p ∈ n → @LT.lt Nat _ p.1 _ => ll; exact ⟨Nat.lt_trans j2 j3, Nat.lt_trans j1 (Nat.lt_trans j2 j3), j4, ll _ z1⟩)); (case Me => first | exact hd_le hd rfl | (show dp + _ < _; omega)); (case Ne => first | exact hu_le hu rfl | (show un + _ < _; omega)); rotate_left; exact OutE.none; intro K9 hK9; rintro v n h' tk' ⟨kW, rfl, hsubW, dgW, gW, hiW, itW, nGW, nHW, esGW, uW, oW, w1, DW, w2, w3, w4, w5, VW, GW, wl, wg1, wg2, wg3⟩ F' N'; any_goals (refine hK9 _ _ _ ?_))
  k_with "eval ListComp" => refine LCg.ListComp_U (F₀ := by k_asm) (by with_unfolding_all rfl) (by decide) (by rfl) (by decide) (by rfl) ?_
  k_with "CompSrc" => refine LCg.CompSrc.ledger (by rfl) (by k_asm) (by k_asm) (by walk_at "m9") (by kcf_size) ?_; intro g'; refine' rest_ints (by assumption) (fun k' t' I' oI' C' oC' D' m' ys' h' tk' E' hC' hx' F' N' off' ne' => ?_) (fun ys9 ns9 hI9 hl9 => ?_)
  k_with "CompEnd" => (refine' ⟨_, _, _, rfl, ?Af, ?Bf, ?Cf, ?Df, rfl, _, _, rfl⟩; (case Af => k_asm); (case Bf | Cf => assumption); (case Df => lcg_src))
  k_with "eval Name" => ((with_reducible show wpAny _ _ (eval (Expr.Name _ _) (compEnvC _ _ _ _)) _ _ _); k_here; first | refine LCgL.ld_built (by k_asm) (by k_asm) (by k_asm) (by k_is) (by boot_by_name) (by decide) ?_ | refine LCgL.ld_own (by k_asm) (by walk_at "m9") (by assumption) (by assumption) ?_)
  k_with "eval Name" => (k_here; refine' nameX_L ?Ag ?Bg ?_ ?Cg ?Dg ?Eg; (case Cg | Dg => rfl); (case Eg => decide); (case Ag => k_asm); (case Bg => exact hM0); k_whole)
  obtain ⟨hs9, gs9, ds9, ks9, os9⟩ := s
  replace F : Fr h₀ L hs9 M := F
  replace N : News h₀ L hs9 _ := N
  revert Xk; k_fill; intro Xk
  unfold lawP
  dsimp only
  refine let_A ?_; intro A9 env9
  k_steps
  have hlen : ys9.length ≤ 100 := by
    rename IntsAre _ (List.take 48 ns) => hI'
    have e1 := hI'.length
    have e2 : (List.take 48 ns).length ≤ 48 := by rw [List.length_take]; exact Nat.min_le_left _ _
    omega
  rename (_ : Obj).data = Data.cell (some (Value.ref r)) => cR
  revert cR
  rename (_ : Obj).data = Data.cell (some (Value.ref _)) => cB
  intro cR
  rename Obj.IsDictOf _ _ (strPairs [_]) => dS
  rename Obj.IsDictOf _ _ (strPairs [_, _, _, _]) => dBk
  (repeat (rename AllLt _ (_ :: _) => q9; dsimp +zetaDelta only [AllLt] at q9))
  obtain ⟨A, O, eW, X, R, bf, IA, IW, hN⟩ := start2 hL WW RR hsubA hsubW ⟨⟨by omega, by omega⟩, by first | assumption | (apply ltM; assumption; walk_at "m9") | omega, by first | assumption | (apply ltM; assumption; walk_at "m9") | omega, by first | assumption | (apply ltM; assumption; walk_at "m9") | omega, by first | assumption | (apply ltM; assumption; walk_at "m9") | omega, by first | assumption | (apply ltM; assumption; walk_at "m9") | omega, by first | assumption | (apply ltM; assumption; walk_at "m9") | omega, by first | assumption | (apply ltM; assumption; walk_at "m9") | omega, by first | assumption | (apply ltM; assumption; walk_at "m9") | omega, by first | assumption | (apply ltM; assumption; walk_at "m9") | omega, by first | assumption | (apply ltM; assumption; walk_at "m9") | omega, by first | assumption | (apply ltM; assumption; walk_at "m9") | omega, by first | assumption | (apply ltM; assumption; walk_at "m9") | omega, by first | assumption | (apply ltM; assumption; walk_at "m9") | omega, by first | assumption | (apply ltM; assumption; walk_at "m9") | omega, by first | assumption | (apply ltM; assumption; walk_at "m9") | omega, by first | assumption | (apply ltM; assumption; walk_at "m9") | omega⟩ GA GW zAsk zg1 zg2 zg3 wl wg1 wg2 wg3 TN1 z2 z3 z4 z5 VA w1 DW w2 w3 w4 w5 VW dS dBk cB dO cR hI9 hlen
  exact hQ _ _ _ _ A _ _ _ _ O X R bf IA IW hN (by rfl) (by rw [eW]; rfl) F' N'
section
theorem execs_app {env : Env} {r : List Stmt} : ∀ l : List Stmt, execs (l ++ r) env = (execs l env >>= fun f => match f with | .next => execs r env | f => pure f)
  | [] => rfl
  | st :: l => by
    rw [List.cons_append, execs_cons, execs_cons, LawfulMonad.bind_assoc]
    congr 1
    funext f
    cases f <;> first | exact execs_app l | rfl
theorem law_all (w : World) (L : Nat) (p : Program) (loose : List Str) (mean : ExcName → Option Value) (mg mb : Str → Option Value) (dp un : Nat) (gd : Option (List Code)) (a : Addr) (A₀ : Around) (h₀ : Heap) (M : Str → Option Value) (s : Shared)
    (scr : Nat) (vs : List Value) (ns : List Int) (hM0 : M "script" = some (.ref scr)) (hscr : h₀.IsList scr vs.toArray) (hvs : IntsAre vs ns) (hns : ns.length ≤ 63) (B : Below A₀ h₀ [] h₀) (Xk : (K w.params).In h₀) (T : Top p loose mean mg mb h₀) (C : CodeHd h₀ 801 799) (hd : dp + 70 < recursionLimit) (hu : un + 8 * 70 < cLine)
    (oB oO oR : Obj) (vB vO vR : Option Value) (dB : oB.data = .cell vB) (dO : oO.data = .cell vO) (dR : oR.data = .cell vR) (hL : 799 < L)
    (F : Fr h₀ L s.heap M) (N : News h₀ L s.heap [(L + 1 + 1 + 1, oR), (L + 1 + 1, oO), (L + 1, oB), (799, tabObj #[])]) (Q : Flow → Shared → Prop)
    (hQ : ∀ h' tk m' n, (∃ ps, (799, tabObj ps) ∈ n) → Fr h₀ L h' m' → News h₀ L h' n → Q (.ret (.bool true)) { s with heap := h', toks := tk }) :
    wpAny (model PySem.Challenge.rw_pf0018_01.row.prog w) (ktrTop dp un gd (Str.ofString "law") lawP.2 L a (.ref 801) (cellsFrom (L + 1) lawP.2.names []) []) (execs (lawP.1 ++ lawR.1) (envX (Str.ofString "law") lawP.2 L a (.ref 801) (cellsFrom (L + 1) lawP.2.names []))) Q (fun _ _ => False) s := by
  rw [execs_app]
  refine wpAny_bind (law_pre w L p loose mean mg mb dp un gd a A₀ h₀ M s scr vs ns hM0 hscr hvs hns B Xk T C hd hu oB oO oR vB vO vR dB dO dR hL F N _ fun h' tk m' n A bk lf tp l2 O X R bf IA IW hN e1 e2 F' N' => ?_)
  exact law_rest w A O bk lf tp l2 L X p loose mean mg mb dp un gd a A₀ h₀ m' _ e1 e2 B Xk T C (by omega) (by omega) n R bf IA IW hN F' N' Q fun h'' tk' m'' n' tb F'' N'' => hQ h'' tk' m'' n' tb F'' N''
theorem fin : PySem.Challenge.rw_pf0018_01.Holds := by
  refine head0 (by rfl) (by rfl) (by rfl) ?_
  k_fill
  intro w s₀ s₁ mg mb G Y fa o pm cd doc dV kV ho hd hcd hD hmg hg args vals as hpre hlay hrd hwl hlo
  have KX := km_in_of Y
  km_tabs Y
  have X := (Ground.X G).1
  have V := (Ground.X G).2
  refine Ground.open G ?_
  intro T B D TE TW
  try (refine guard_noD D (by decide +kernel) ?_; clear D)
  km_lay T hmg ho hd cd
  clear hmg
  wrow_args hpre hlay hrd hwl hlo
  all_goals (
    first | refine callC_kw (enter_call ?_) | refine enter_call ?_
    w_top on
    kn_posts
    w_call any ho hd hcd hD T F
    clear hd
    kn_ghosts F T
    k_drop
    skip)
  all_goals (try k_fold)
  all_goals rw [top_eq]
  rename IntsAre _ _ => hI1
  rename Below callerA _ [] _ => K1
  rename Frag.In _ _ => X1
  rename Top topProg _ _ _ _ _ => T1
  rename Fr _ _ _ _ => F1
  rename News _ _ _ _ => N1
  first | (rename 799 < _ => l1) | (rename 799 < _ ∧ _ => l0; have l1 := l0.1)
  rename Heap.IsList _ _ _ => L1
  rename CodeHd _ _ _ => C1
  rename (_ : Obj).data = Data.cell _ => c1
  revert c1
  rename (_ : Obj).data = Data.cell _ => c2
  revert c2
  rename (_ : Obj).data = Data.cell _ => c3
  intro c2 c1
  refine wpAny_mono (law_all w _ _ _ _ _ _ _ _ _ _ _ _ _ _ _ _ _ ?h1 L1 hI1 ?h2 K1 X1 T1 C1 ?h3 ?h4 _ _ _ _ _ _ c1 c2 c3 l1 F1 N1 _ ?hQ) (fun _ _ x => x) (fun _ _ x => x.elim)
  case h1 => rfl
  case h3 => decide +kernel
  case h4 => decide +kernel
  case h2 => omega
  intro h2 tk2 m2 n2 tb2 F2 N2
  obtain ⟨ps, hm2⟩ := tb2
  refine ⟨?_, GrownAt.of N2 hm2, trivial⟩
  dsimp only
  kc_close
end
end Mine
theorem PySem.Challenge.cw_pf0018_01_holds : PySem.Challenge.rw_pf0018_01.Holds := by
  exact Mine.fin
