import PyProof.Rows.All
import Wide.All
import OpenK.AllK
import Wide.FinOn
import PyProof.WalksPairs
import PySem.Challenge.RW_on0209_01
open PySem PySem.W PySem.Calls PyProof.Rows PyProof.V PySem.Spec
set_option Elab.async false
set_option maxRecDepth 100000
namespace Mine
-- The top of the text, run in five stretches between states that are written out; printed by topgen (a small program of mine) from the states that the plain head finds. A def's parts are said by their place in the given program.
abbrev PW : Program := PySem.Challenge.rw_on0209_01.row.prog
noncomputable def tpS (i : Nat) : Stmt := PW.main.body.getD i (.Pass ⟨0, 0, 0, 0⟩)
noncomputable def tpM (i j : Nat) : Stmt := match tpS i with | .ClassDef _ _ _ b _ _ _ _ _ _ _ => b.getD j (.Pass ⟨0, 0, 0, 0⟩) | s => s
noncomputable def tpA (s : Stmt) : Arguments := match s with | .FunctionDef _ a _ _ _ _ _ _ _ _ => a | _ => default
noncomputable def tpB (s : Stmt) : List Stmt := match s with | .FunctionDef _ _ b _ _ _ _ _ _ _ => b | _ => []
noncomputable def tpC (s : Stmt) : Scope := match s with | .FunctionDef _ _ _ _ _ _ c _ _ _ => c | _ => default
noncomputable def tp43 (_ : Params) : Obj := (.mk (.type "tuple") none (.seq #[] 0) #[])
noncomputable def tp44 (_ : Params) : Obj := (.mk .none none (.fields #[]) #[])
noncomputable def tp45 (_ : Params) : Obj := (.mk (.type "code") none (.fields #[(.str (.ofString "<module>") 182), (.str (.ofString "<module>") 183), (.str (.ofString "/claim/cut.py") 184), (.int 1 0), (.int 0 0), (.int 0 0), (.int 0 0), (.int 0 0), (.ref 11), (.bool false), (.int 181 0), (.ref 12), .none, .none, .none, .none, (.int 185 0), (.int 1 0), (.str (.ofString "/claim/cut.py") 186)]) #[])
noncomputable def tp46 (_ : Params) : Obj := (.mk (.type "frame") none .plain #[(some (.ref 13)), (some (.ref 3)), (some (.ref 3)), none, (some (.str (.ofString "__main__") 164)), none, (some (.ref 0))])
noncomputable def tp49 (P : Params) : Obj := (.mk .none none (.dict #[(.mk (PyData.keyHash P (.ofString "type.__subclasses__.Exception.0")) (.str (.ofString "type.__subclasses__.Exception.0") 205) (.int 24 0)), (.mk (PyData.keyHash P (.ofString "type.__subclasses__.Exception.n")) (.str (.ofString "type.__subclasses__.Exception.n") 206) (.int 1 0))] 2) #[])
noncomputable def tp50 (P : Params) : Obj := (.mk (.type "dict") none (.dict #[(.mk (PyData.keyHash P (.ofString "__name__")) (.str (.ofString "__name__") 165) (.str (.ofString "moduleyard.errors") 187)), (.mk (PyData.keyHash P (.ofString "__doc__")) (.str (.ofString "__doc__") 166) .none), (.mk (PyData.keyHash P (.ofString "__package__")) (.str (.ofString "__package__") 167) .none), (.mk (PyData.keyHash P (.ofString "__loader__")) (.str (.ofString "__loader__") 168) (.builtin (.ofList ['_', '_', 'm', 'a', 'i', 'n', '_', '_', '.', '_', '_', 'l', 'o', 'a', 'd', 'e', 'r', '_', '_', '#', 'o', 'p', 'a', 'q', 'u', 'e']))), (.mk (PyData.keyHash P (.ofString "__spec__")) (.str (.ofString "__spec__") 169) .none), (.mk (PyData.keyHash P (.ofString "__annotations__")) (.str (.ofString "__annotations__") 170) (.ref 6)), (.mk (PyData.keyHash P (.ofString "__builtins__")) (.str (.ofString "__builtins__") 171) (.ref 4)), (.mk (PyData.keyHash P (.ofString "__file__")) (.str (.ofString "__file__") 173) (.str (.ofString "/claim/cut.py") 172)), (.mk (PyData.keyHash P (.ofString "__cached__")) (.str (.ofString "__cached__") 174) .none), (.mk (PyData.keyHash P (.ofString "YardError")) (.str (.ofString "YardError") 208) (.ref 24))] 10) #[])
noncomputable def tp51 (_ : Params) : Obj := (.mk .none none (.fields #[(.int 2 0), (.int 0 0), (.ref 20)]) #[])
noncomputable def tp52 (_ : Params) : Obj := (.mk (.type "tuple") none (.seq #[(.type "Exception")] 0) #[])
noncomputable def tp53 (_ : Params) : Obj := (.mk (.type "builtin_function_or_method") none (.fields #[(.builtin "type.__prepare__"), (.type "type")]) #[])
noncomputable def tp54 (P : Params) : Obj := (.mk (.type "dict") none (.dict #[(.mk (PyData.keyHash P (.ofString "__module__")) (.str (.ofString "__module__") 196) (.str (.ofString "moduleyard.errors") 187)), (.mk (PyData.keyHash P (.ofString "__qualname__")) (.str (.ofString "__qualname__") 198) (.str (.ofString "YardError") 197)), (.mk (PyData.keyHash P (.ofString "__firstlineno__")) (.str (.ofString "__firstlineno__") 200) (.int 2 199)), (.mk (PyData.keyHash P (.ofString "__static_attributes__")) (.str (.ofString "__static_attributes__") 201) (.ref 22))] 4) #[])
noncomputable def tp55 (_ : Params) : Obj := (.mk (.type "tuple") none (.seq #[] 0) #[])
noncomputable def tp56 (_ : Params) : Obj := (.mk .none none (.fields #[]) #[])
noncomputable def tp57 (_ : Params) : Obj := (.mk (.type "code") none (.fields #[(.str (.ofString "YardError") 191), (.str (.ofString "YardError") 192), (.str (.ofString "/claim/cut.py") 193), (.int 2 0), (.int 0 0), (.int 0 0), (.int 0 0), (.int 0 0), (.ref 18), (.bool false), (.int 181 0), (.ref 19), .none, .none, .none, .none, (.int 194 0), (.int 2 0), (.str (.ofString "/claim/cut.py") 195)]) #[])
noncomputable def tp58 (_ : Params) : Obj := (.mk (.type "frame") none .plain #[(some (.ref 20)), (some (.ref 3)), (some (.ref 17)), none, (some (.str (.ofString "moduleyard.errors") 187)), none, (some (.ref 0))])
noncomputable def tp59 (_ : Params) : Obj := (.mk (.type "tuple") none (.seq #[] 0) #[])
noncomputable def tp60 (P : Params) : Obj := (.mk (.type "dict") none (.dict #[(.mk (PyData.keyHash P (.ofString "__module__")) (.str (.ofString "__module__") 196) (.str (.ofString "moduleyard.errors") 187)), (.mk (PyData.keyHash P (.ofString "__firstlineno__")) (.str (.ofString "__firstlineno__") 200) (.int 2 199)), (.mk (PyData.keyHash P (.ofString "__static_attributes__")) (.str (.ofString "__static_attributes__") 201) (.ref 22)), (.mk (PyData.keyHash P (.ofString "__weakref__")) (.str (.ofString "__weakref__") 203) (.ref 25)), (.mk (PyData.keyHash P (.ofString "__doc__")) (.str (.ofString "__doc__") 204) .none)] 3) #[])
noncomputable def tp61 (_ : Params) : Obj := (.mk (.type "type") none (.cls (.mk (.ofString "YardError") [(.type "Exception")] [(.ref 24), (.type "Exception"), (.type "BaseException"), (.type "object")] 23 (.ofString "YardError") true [] [] false none false)) #[(some (.ref 15)), none, (some (.str (.ofString "YardError") 189)), (some (.str (.ofString "YardError") 197)), (some (.builtin "Exception.__new__")), (some (.bool true))])
noncomputable def tp62 (_ : Params) : Obj := (.mk (.type "getset_descriptor") none (.fields #[(.str (.ofString "__weakref__") 202), (.ref 24), (.builtin "ExceptionGroup.__weakref__"), .none]) #[])
noncomputable def tp63 (_ : Params) : Obj := (.mk (.type "super") none (.fields #[(.ref 24), (.ref 24), (.ref 24)]) #[])
noncomputable def tp64 (_ : Params) : Obj := (.mk (.type "builtin_function_or_method") none (.fields #[(.builtin "object.__init_subclass__"), (.ref 24)]) #[])
noncomputable def tp65 (P : Params) : Obj := (.mk (.type "dict") none (.dict #[(.mk (PyData.keyHash P (.ofString "__name__")) (.str (.ofString "__name__") 165) (.str (.ofString "moduleyard.texts") 236)), (.mk (PyData.keyHash P (.ofString "__doc__")) (.str (.ofString "__doc__") 166) .none), (.mk (PyData.keyHash P (.ofString "__package__")) (.str (.ofString "__package__") 167) .none), (.mk (PyData.keyHash P (.ofString "__loader__")) (.str (.ofString "__loader__") 168) (.builtin (.ofList ['_', '_', 'm', 'a', 'i', 'n', '_', '_', '.', '_', '_', 'l', 'o', 'a', 'd', 'e', 'r', '_', '_', '#', 'o', 'p', 'a', 'q', 'u', 'e']))), (.mk (PyData.keyHash P (.ofString "__spec__")) (.str (.ofString "__spec__") 169) .none), (.mk (PyData.keyHash P (.ofString "__annotations__")) (.str (.ofString "__annotations__") 170) (.ref 6)), (.mk (PyData.keyHash P (.ofString "__builtins__")) (.str (.ofString "__builtins__") 171) (.ref 4)), (.mk (PyData.keyHash P (.ofString "__file__")) (.str (.ofString "__file__") 173) (.str (.ofString "/claim/cut.py") 172)), (.mk (PyData.keyHash P (.ofString "__cached__")) (.str (.ofString "__cached__") 174) .none), (.mk (PyData.keyHash P (.ofString "YardError")) (.str (.ofString "YardError") 208) (.ref 24)), (.mk (PyData.keyHash P (.ofString "FormatError")) (.str (.ofString "FormatError") 235) (.ref 44))] 11) #[])
noncomputable def tp66 (_ : Params) : Obj := (.mk .none none (.fields #[(.int 2 0), (.int 0 0), (.ref 20), (.int 4 0), (.int 0 0), (.ref 33)]) #[])
noncomputable def tp67 (_ : Params) : Obj := (.mk (.type "type") none (.cls (.mk (.ofString "YardError") [(.type "Exception")] [(.ref 24), (.type "Exception"), (.type "BaseException"), (.type "object")] 23 (.ofString "YardError") true [] [(.ref 44)] false none false)) #[(some (.ref 15)), none, (some (.str (.ofString "YardError") 189)), (some (.str (.ofString "YardError") 197)), (some (.builtin "Exception.__new__")), (some (.bool true))])
noncomputable def tp68 (_ : Params) : Obj := (.mk (.type "tuple") none (.seq #[(.ref 24)] 0) #[])
noncomputable def tp69 (_ : Params) : Obj := (.mk (.type "builtin_function_or_method") none (.fields #[(.builtin "type.__prepare__"), (.type "type")]) #[])
noncomputable def tp70 (P : Params) : Obj := (.mk (.type "dict") none (.dict #[(.mk (PyData.keyHash P (.ofString "__module__")) (.str (.ofString "__module__") 216) (.str (.ofString "moduleyard.errors") 187)), (.mk (PyData.keyHash P (.ofString "__qualname__")) (.str (.ofString "__qualname__") 218) (.str (.ofString "FormatError") 217)), (.mk (PyData.keyHash P (.ofString "__firstlineno__")) (.str (.ofString "__firstlineno__") 220) (.int 4 219)), (.mk (PyData.keyHash P (.ofString "__init__")) (.str (.ofString "__init__") 229) (.ref 41)), (.mk (PyData.keyHash P (.ofString "__static_attributes__")) (.str (.ofString "__static_attributes__") 232) (.ref 42))] 5) #[])
noncomputable def tp71 (_ : Params) : Obj := (.mk (.type "tuple") none (.seq #[] 0) #[])
noncomputable def tp72 (_ : Params) : Obj := (.mk .none none (.fields #[(.int 6 0), (.int 4 0), (.ref 40)]) #[])
noncomputable def tp73 (_ : Params) : Obj := (.mk (.type "code") none (.fields #[(.str (.ofString "FormatError") 211), (.str (.ofString "FormatError") 212), (.str (.ofString "/claim/cut.py") 213), (.int 4 0), (.int 0 0), (.int 0 0), (.int 0 0), (.int 0 0), (.ref 31), (.bool false), (.int 181 0), (.ref 32), .none, .none, .none, .none, (.int 214 0), (.int 4 0), (.str (.ofString "/claim/cut.py") 215)]) #[])
noncomputable def tp74 (_ : Params) : Obj := (.mk (.type "frame") none .plain #[(some (.ref 33)), (some (.ref 3)), (some (.ref 30)), none, (some (.str (.ofString "moduleyard.errors") 187)), none, (some (.ref 0))])
noncomputable def tp75 (_ : Params) : Obj := (.mk (.type "tuple") none (.seq #[] 0) #[])
noncomputable def tp76 (_ : Params) : Obj := (.mk .none none (.fields #[]) #[])
noncomputable def tp77 (_ : Params) : Obj := (.mk (.type "tuple") none (.seq #[(.str (.ofString "self") 224), (.str (.ofString "what") 225), (.str (.ofString "at") 226)] 0) #[])
noncomputable def tp78 (_ : Params) : Obj := (.mk (.type "tuple") none (.seq #[] 0) #[])
noncomputable def tp79 (_ : Params) : Obj := (.mk .none none (.func (.mk (.ofString "__init__") (.ofString "FormatError.__init__") (tpA (tpM 2 0)) (.stmts (tpB (tpM 2 0))) (tpC (tpM 2 0)) 0 [] .none .none .none .none none .none .none 0)) #[])
noncomputable def tp80 (_ : Params) : Obj := (.mk (.type "code") none (.fields #[(.str (.ofString "__init__") 221), (.str (.ofString "FormatError.__init__") 222), (.str (.ofString "/claim/cut.py") 223), (.int 6 0), (.int 3 0), (.int 0 0), (.int 0 0), (.int 3 0), (.ref 35), (.bool true), (.int 181 0), (.ref 36), .none, (.ref 37), (.ref 38), (.ref 39), (.int 227 0), (.int 6 0), (.str (.ofString "/claim/cut.py") 228)]) #[])
noncomputable def tp81 (_ : Params) : Obj := (.mk (.type "function") none (.func (.mk (.ofString "__init__") (.ofString "FormatError.__init__") (tpA (tpM 2 0)) (.stmts (tpB (tpM 2 0))) (tpC (tpM 2 0)) 3 [] .none .none .none (.str (.ofString "moduleyard.errors") 187) none (.ref 40) .none 0)) #[])
noncomputable def tp82 (_ : Params) : Obj := (.mk (.type "tuple") none (.seq #[(.str (.ofString "at") 230), (.str (.ofString "what") 231)] 0) #[])
noncomputable def tp83 (P : Params) : Obj := (.mk (.type "dict") none (.dict #[(.mk (PyData.keyHash P (.ofString "__module__")) (.str (.ofString "__module__") 216) (.str (.ofString "moduleyard.errors") 187)), (.mk (PyData.keyHash P (.ofString "__firstlineno__")) (.str (.ofString "__firstlineno__") 220) (.int 4 219)), (.mk (PyData.keyHash P (.ofString "__init__")) (.str (.ofString "__init__") 229) (.ref 41)), (.mk (PyData.keyHash P (.ofString "__static_attributes__")) (.str (.ofString "__static_attributes__") 232) (.ref 42)), (.mk (PyData.keyHash P (.ofString "__doc__")) (.str (.ofString "__doc__") 233) .none)] 2) #[])
noncomputable def tp84 (_ : Params) : Obj := (.mk (.type "type") none (.cls (.mk (.ofString "FormatError") [(.ref 24)] [(.ref 44), (.ref 24), (.type "Exception"), (.type "BaseException"), (.type "object")] 43 (.ofString "FormatError") true [] [] false none false)) #[(some (.ref 28)), none, (some (.str (.ofString "FormatError") 209)), (some (.str (.ofString "FormatError") 217)), (some (.builtin "Exception.__new__")), (some (.bool true))])
noncomputable def tp85 (_ : Params) : Obj := (.mk (.type "super") none (.fields #[(.ref 44), (.ref 44), (.ref 44)]) #[])
noncomputable def tp86 (_ : Params) : Obj := (.mk (.type "builtin_function_or_method") none (.fields #[(.builtin "object.__init_subclass__"), (.ref 44)]) #[])
noncomputable def tp87 (P : Params) : Obj := (.mk (.type "dict") none (.dict #[(.mk (PyData.keyHash P (.ofString "__name__")) (.str (.ofString "__name__") 165) (.str (.ofString "moduleyard.texts") 236)), (.mk (PyData.keyHash P (.ofString "__doc__")) (.str (.ofString "__doc__") 166) .none), (.mk (PyData.keyHash P (.ofString "__package__")) (.str (.ofString "__package__") 167) .none), (.mk (PyData.keyHash P (.ofString "__loader__")) (.str (.ofString "__loader__") 168) (.builtin (.ofList ['_', '_', 'm', 'a', 'i', 'n', '_', '_', '.', '_', '_', 'l', 'o', 'a', 'd', 'e', 'r', '_', '_', '#', 'o', 'p', 'a', 'q', 'u', 'e']))), (.mk (PyData.keyHash P (.ofString "__spec__")) (.str (.ofString "__spec__") 169) .none), (.mk (PyData.keyHash P (.ofString "__annotations__")) (.str (.ofString "__annotations__") 170) (.ref 6)), (.mk (PyData.keyHash P (.ofString "__builtins__")) (.str (.ofString "__builtins__") 171) (.ref 4)), (.mk (PyData.keyHash P (.ofString "__file__")) (.str (.ofString "__file__") 173) (.str (.ofString "/claim/cut.py") 172)), (.mk (PyData.keyHash P (.ofString "__cached__")) (.str (.ofString "__cached__") 174) .none), (.mk (PyData.keyHash P (.ofString "YardError")) (.str (.ofString "YardError") 208) (.ref 24)), (.mk (PyData.keyHash P (.ofString "FormatError")) (.str (.ofString "FormatError") 235) (.ref 44)), (.mk (PyData.keyHash P (.ofString "Text")) (.str (.ofString "Text") 362) (.ref 134))] 12) #[])
noncomputable def tp88 (_ : Params) : Obj := (.mk .none none (.fields #[(.int 2 0), (.int 0 0), (.ref 20), (.int 4 0), (.int 0 0), (.ref 33), (.int 10 0), (.int 0 0), (.ref 52)]) #[])
noncomputable def tp89 (_ : Params) : Obj := (.mk (.type "tuple") none (.seq #[] 0) #[])
noncomputable def tp90 (_ : Params) : Obj := (.mk (.type "builtin_function_or_method") none (.fields #[(.builtin "type.__prepare__"), (.type "type")]) #[])
noncomputable def tp91 (P : Params) : Obj := (.mk (.type "dict") none (.dict #[(.mk (PyData.keyHash P (.ofString "__module__")) (.str (.ofString "__module__") 245) (.str (.ofString "moduleyard.texts") 236)), (.mk (PyData.keyHash P (.ofString "__qualname__")) (.str (.ofString "__qualname__") 247) (.str (.ofString "Text") 246)), (.mk (PyData.keyHash P (.ofString "__firstlineno__")) (.str (.ofString "__firstlineno__") 249) (.int 10 248)), (.mk (PyData.keyHash P (.ofString "__init__")) (.str (.ofString "__init__") 258) (.ref 61)), (.mk (PyData.keyHash P (.ofString "length")) (.str (.ofString "length") 269) (.ref 68)), (.mk (PyData.keyHash P (.ofString "check")) (.str (.ofString "check") 278) (.ref 75)), (.mk (PyData.keyHash P (.ofString "change")) (.str (.ofString "change") 286) (.ref 82)), (.mk (PyData.keyHash P (.ofString "insert")) (.str (.ofString "insert") 296) (.ref 89)), (.mk (PyData.keyHash P (.ofString "delete")) (.str (.ofString "delete") 305) (.ref 96)), (.mk (PyData.keyHash P (.ofString "replace")) (.str (.ofString "replace") 316) (.ref 103)), (.mk (PyData.keyHash P (.ofString "read")) (.str (.ofString "read") 329) (.ref 110)), (.mk (PyData.keyHash P (.ofString "whole")) (.str (.ofString "whole") 336) (.ref 117)), (.mk (PyData.keyHash P (.ofString "undo")) (.str (.ofString "undo") 343) (.ref 124)), (.mk (PyData.keyHash P (.ofString "redo")) (.str (.ofString "redo") 350) (.ref 131)), (.mk (PyData.keyHash P (.ofString "__static_attributes__")) (.str (.ofString "__static_attributes__") 355) (.ref 132))] 15) #[])
noncomputable def tp92 (_ : Params) : Obj := (.mk (.type "tuple") none (.seq #[] 0) #[])
noncomputable def tp93 (_ : Params) : Obj := (.mk .none none (.fields #[(.int 12 0), (.int 4 0), (.ref 60), (.int 18 0), (.int 4 0), (.ref 67), (.int 24 0), (.int 4 0), (.ref 74), (.int 30 0), (.int 4 0), (.ref 81), (.int 35 0), (.int 4 0), (.ref 88), (.int 42 0), (.int 4 0), (.ref 95), (.int 47 0), (.int 4 0), (.ref 102), (.int 58 0), (.int 4 0), (.ref 109), (.int 65 0), (.int 4 0), (.ref 116), (.int 68 0), (.int 4 0), (.ref 123), (.int 75 0), (.int 4 0), (.ref 130)]) #[])
noncomputable def tp94 (_ : Params) : Obj := (.mk (.type "code") none (.fields #[(.str (.ofString "Text") 240), (.str (.ofString "Text") 241), (.str (.ofString "/claim/cut.py") 242), (.int 10 0), (.int 0 0), (.int 0 0), (.int 0 0), (.int 0 0), (.ref 50), (.bool false), (.int 181 0), (.ref 51), .none, .none, .none, .none, (.int 243 0), (.int 10 0), (.str (.ofString "/claim/cut.py") 244)]) #[])
noncomputable def tp95 (_ : Params) : Obj := (.mk (.type "frame") none .plain #[(some (.ref 52)), (some (.ref 3)), (some (.ref 49)), none, (some (.str (.ofString "moduleyard.texts") 236)), none, (some (.ref 0))])
noncomputable def tp96 (_ : Params) : Obj := (.mk (.type "tuple") none (.seq #[(.str (.ofString "") 250)] 0) #[])
noncomputable def tp97 (_ : Params) : Obj := (.mk (.type "tuple") none (.seq #[] 0) #[])
noncomputable def tp98 (_ : Params) : Obj := (.mk .none none (.fields #[]) #[])
noncomputable def tp99 (_ : Params) : Obj := (.mk (.type "tuple") none (.seq #[(.str (.ofString "self") 254), (.str (.ofString "start") 255)] 0) #[])
noncomputable def tp100 (_ : Params) : Obj := (.mk (.type "tuple") none (.seq #[] 0) #[])
noncomputable def tp101 (_ : Params) : Obj := (.mk .none none (.func (.mk (.ofString "__init__") (.ofString "Text.__init__") (tpA (tpM 4 0)) (.stmts (tpB (tpM 4 0))) (tpC (tpM 4 0)) 0 [] .none .none .none .none none .none .none 0)) #[])
noncomputable def tp102 (_ : Params) : Obj := (.mk (.type "code") none (.fields #[(.str (.ofString "__init__") 251), (.str (.ofString "Text.__init__") 252), (.str (.ofString "/claim/cut.py") 253), (.int 12 0), (.int 2 0), (.int 0 0), (.int 0 0), (.int 3 0), (.ref 55), (.bool true), (.int 181 0), (.ref 56), .none, (.ref 57), (.ref 58), (.ref 59), (.int 256 0), (.int 12 0), (.str (.ofString "/claim/cut.py") 257)]) #[])
noncomputable def tp103 (_ : Params) : Obj := (.mk (.type "function") none (.func (.mk (.ofString "__init__") (.ofString "Text.__init__") (tpA (tpM 4 0)) (.stmts (tpB (tpM 4 0))) (tpC (tpM 4 0)) 3 [] (.ref 54) .none .none (.str (.ofString "moduleyard.texts") 236) none (.ref 60) .none 0)) #[])
noncomputable def tp104 (_ : Params) : Obj := (.mk (.type "tuple") none (.seq #[] 0) #[])
noncomputable def tp105 (_ : Params) : Obj := (.mk .none none (.fields #[]) #[])
noncomputable def tp106 (_ : Params) : Obj := (.mk (.type "tuple") none (.seq #[(.str (.ofString "self") 262), (.str (.ofString "total") 263), (.str (.ofString "buffer") 264), (.str (.ofString "begin") 265), (.str (.ofString "count") 266)] 0) #[])
noncomputable def tp107 (_ : Params) : Obj := (.mk (.type "tuple") none (.seq #[] 0) #[])
noncomputable def tp108 (_ : Params) : Obj := (.mk .none none (.func (.mk (.ofString "length") (.ofString "Text.length") (tpA (tpM 4 1)) (.stmts (tpB (tpM 4 1))) (tpC (tpM 4 1)) 0 [] .none .none .none .none none .none .none 0)) #[])
noncomputable def tp109 (_ : Params) : Obj := (.mk (.type "code") none (.fields #[(.str (.ofString "length") 259), (.str (.ofString "Text.length") 260), (.str (.ofString "/claim/cut.py") 261), (.int 18 0), (.int 1 0), (.int 0 0), (.int 0 0), (.int 3 0), (.ref 62), (.bool true), (.int 181 0), (.ref 63), .none, (.ref 64), (.ref 65), (.ref 66), (.int 267 0), (.int 18 0), (.str (.ofString "/claim/cut.py") 268)]) #[])
noncomputable def tp110 (_ : Params) : Obj := (.mk (.type "function") none (.func (.mk (.ofString "length") (.ofString "Text.length") (tpA (tpM 4 1)) (.stmts (tpB (tpM 4 1))) (tpC (tpM 4 1)) 3 [] .none .none .none (.str (.ofString "moduleyard.texts") 236) none (.ref 67) .none 0)) #[])
noncomputable def tp111 (_ : Params) : Obj := (.mk (.type "tuple") none (.seq #[] 0) #[])
noncomputable def tp112 (_ : Params) : Obj := (.mk .none none (.fields #[]) #[])
noncomputable def tp113 (_ : Params) : Obj := (.mk (.type "tuple") none (.seq #[(.str (.ofString "self") 273), (.str (.ofString "begin") 274), (.str (.ofString "end") 275)] 0) #[])
noncomputable def tp114 (_ : Params) : Obj := (.mk (.type "tuple") none (.seq #[] 0) #[])
noncomputable def tp115 (_ : Params) : Obj := (.mk .none none (.func (.mk (.ofString "check") (.ofString "Text.check") (tpA (tpM 4 2)) (.stmts (tpB (tpM 4 2))) (tpC (tpM 4 2)) 0 [] .none .none .none .none none .none .none 0)) #[])
noncomputable def tp116 (_ : Params) : Obj := (.mk (.type "code") none (.fields #[(.str (.ofString "check") 270), (.str (.ofString "Text.check") 271), (.str (.ofString "/claim/cut.py") 272), (.int 24 0), (.int 3 0), (.int 0 0), (.int 0 0), (.int 3 0), (.ref 69), (.bool true), (.int 181 0), (.ref 70), .none, (.ref 71), (.ref 72), (.ref 73), (.int 276 0), (.int 24 0), (.str (.ofString "/claim/cut.py") 277)]) #[])
noncomputable def tp117 (_ : Params) : Obj := (.mk (.type "function") none (.func (.mk (.ofString "check") (.ofString "Text.check") (tpA (tpM 4 2)) (.stmts (tpB (tpM 4 2))) (tpC (tpM 4 2)) 3 [] .none .none .none (.str (.ofString "moduleyard.texts") 236) none (.ref 74) .none 0)) #[])
noncomputable def tp118 (_ : Params) : Obj := (.mk (.type "tuple") none (.seq #[] 0) #[])
noncomputable def tp119 (_ : Params) : Obj := (.mk .none none (.fields #[]) #[])
noncomputable def tp120 (_ : Params) : Obj := (.mk (.type "tuple") none (.seq #[(.str (.ofString "self") 282), (.str (.ofString "pieces") 283)] 0) #[])
noncomputable def tp121 (_ : Params) : Obj := (.mk (.type "tuple") none (.seq #[] 0) #[])
noncomputable def tp122 (_ : Params) : Obj := (.mk .none none (.func (.mk (.ofString "change") (.ofString "Text.change") (tpA (tpM 4 3)) (.stmts (tpB (tpM 4 3))) (tpC (tpM 4 3)) 0 [] .none .none .none .none none .none .none 0)) #[])
noncomputable def tp123 (_ : Params) : Obj := (.mk (.type "code") none (.fields #[(.str (.ofString "change") 279), (.str (.ofString "Text.change") 280), (.str (.ofString "/claim/cut.py") 281), (.int 30 0), (.int 2 0), (.int 0 0), (.int 0 0), (.int 3 0), (.ref 76), (.bool true), (.int 181 0), (.ref 77), .none, (.ref 78), (.ref 79), (.ref 80), (.int 284 0), (.int 30 0), (.str (.ofString "/claim/cut.py") 285)]) #[])
noncomputable def tp124 (_ : Params) : Obj := (.mk (.type "function") none (.func (.mk (.ofString "change") (.ofString "Text.change") (tpA (tpM 4 3)) (.stmts (tpB (tpM 4 3))) (tpC (tpM 4 3)) 3 [] .none .none .none (.str (.ofString "moduleyard.texts") 236) none (.ref 81) .none 0)) #[])
noncomputable def tp125 (_ : Params) : Obj := (.mk (.type "tuple") none (.seq #[] 0) #[])
noncomputable def tp126 (_ : Params) : Obj := (.mk .none none (.fields #[]) #[])
noncomputable def tp127 (_ : Params) : Obj := (.mk (.type "tuple") none (.seq #[(.str (.ofString "self") 290), (.str (.ofString "at") 291), (.str (.ofString "added") 292), (.str (.ofString "piece") 293)] 0) #[])
noncomputable def tp128 (_ : Params) : Obj := (.mk (.type "tuple") none (.seq #[] 0) #[])
noncomputable def tp129 (_ : Params) : Obj := (.mk .none none (.func (.mk (.ofString "insert") (.ofString "Text.insert") (tpA (tpM 4 4)) (.stmts (tpB (tpM 4 4))) (tpC (tpM 4 4)) 0 [] .none .none .none .none none .none .none 0)) #[])
noncomputable def tp130 (_ : Params) : Obj := (.mk (.type "code") none (.fields #[(.str (.ofString "insert") 287), (.str (.ofString "Text.insert") 288), (.str (.ofString "/claim/cut.py") 289), (.int 35 0), (.int 3 0), (.int 0 0), (.int 0 0), (.int 3 0), (.ref 83), (.bool true), (.int 181 0), (.ref 84), .none, (.ref 85), (.ref 86), (.ref 87), (.int 294 0), (.int 35 0), (.str (.ofString "/claim/cut.py") 295)]) #[])
noncomputable def tp131 (_ : Params) : Obj := (.mk (.type "function") none (.func (.mk (.ofString "insert") (.ofString "Text.insert") (tpA (tpM 4 4)) (.stmts (tpB (tpM 4 4))) (tpC (tpM 4 4)) 3 [] .none .none .none (.str (.ofString "moduleyard.texts") 236) none (.ref 88) .none 0)) #[])
noncomputable def tp132 (_ : Params) : Obj := (.mk (.type "tuple") none (.seq #[] 0) #[])
noncomputable def tp133 (_ : Params) : Obj := (.mk .none none (.fields #[]) #[])
noncomputable def tp134 (_ : Params) : Obj := (.mk (.type "tuple") none (.seq #[(.str (.ofString "self") 300), (.str (.ofString "begin") 301), (.str (.ofString "end") 302)] 0) #[])
noncomputable def tp135 (_ : Params) : Obj := (.mk (.type "tuple") none (.seq #[] 0) #[])
noncomputable def tp136 (_ : Params) : Obj := (.mk .none none (.func (.mk (.ofString "delete") (.ofString "Text.delete") (tpA (tpM 4 5)) (.stmts (tpB (tpM 4 5))) (tpC (tpM 4 5)) 0 [] .none .none .none .none none .none .none 0)) #[])
noncomputable def tp137 (_ : Params) : Obj := (.mk (.type "code") none (.fields #[(.str (.ofString "delete") 297), (.str (.ofString "Text.delete") 298), (.str (.ofString "/claim/cut.py") 299), (.int 42 0), (.int 3 0), (.int 0 0), (.int 0 0), (.int 3 0), (.ref 90), (.bool true), (.int 181 0), (.ref 91), .none, (.ref 92), (.ref 93), (.ref 94), (.int 303 0), (.int 42 0), (.str (.ofString "/claim/cut.py") 304)]) #[])
noncomputable def tp138 (_ : Params) : Obj := (.mk (.type "function") none (.func (.mk (.ofString "delete") (.ofString "Text.delete") (tpA (tpM 4 5)) (.stmts (tpB (tpM 4 5))) (tpC (tpM 4 5)) 3 [] .none .none .none (.str (.ofString "moduleyard.texts") 236) none (.ref 95) .none 0)) #[])
noncomputable def tp139 (_ : Params) : Obj := (.mk (.type "tuple") none (.seq #[] 0) #[])
noncomputable def tp140 (_ : Params) : Obj := (.mk .none none (.fields #[]) #[])
noncomputable def tp141 (_ : Params) : Obj := (.mk (.type "tuple") none (.seq #[(.str (.ofString "self") 309), (.str (.ofString "begin") 310), (.str (.ofString "end") 311), (.str (.ofString "added") 312), (.str (.ofString "piece") 313)] 0) #[])
noncomputable def tp142 (_ : Params) : Obj := (.mk (.type "tuple") none (.seq #[] 0) #[])
noncomputable def tp143 (_ : Params) : Obj := (.mk .none none (.func (.mk (.ofString "replace") (.ofString "Text.replace") (tpA (tpM 4 6)) (.stmts (tpB (tpM 4 6))) (tpC (tpM 4 6)) 0 [] .none .none .none .none none .none .none 0)) #[])
noncomputable def tp144 (_ : Params) : Obj := (.mk (.type "code") none (.fields #[(.str (.ofString "replace") 306), (.str (.ofString "Text.replace") 307), (.str (.ofString "/claim/cut.py") 308), (.int 47 0), (.int 4 0), (.int 0 0), (.int 0 0), (.int 3 0), (.ref 97), (.bool true), (.int 181 0), (.ref 98), .none, (.ref 99), (.ref 100), (.ref 101), (.int 314 0), (.int 47 0), (.str (.ofString "/claim/cut.py") 315)]) #[])
noncomputable def tp145 (_ : Params) : Obj := (.mk (.type "function") none (.func (.mk (.ofString "replace") (.ofString "Text.replace") (tpA (tpM 4 6)) (.stmts (tpB (tpM 4 6))) (tpC (tpM 4 6)) 3 [] .none .none .none (.str (.ofString "moduleyard.texts") 236) none (.ref 102) .none 0)) #[])
noncomputable def tp146 (_ : Params) : Obj := (.mk (.type "tuple") none (.seq #[] 0) #[])
noncomputable def tp147 (_ : Params) : Obj := (.mk .none none (.fields #[]) #[])
noncomputable def tp148 (_ : Params) : Obj := (.mk (.type "tuple") none (.seq #[(.str (.ofString "self") 320), (.str (.ofString "begin") 321), (.str (.ofString "end") 322), (.str (.ofString "found") 323), (.str (.ofString "buffer") 324), (.str (.ofString "first") 325), (.str (.ofString "count") 326)] 0) #[])
noncomputable def tp149 (_ : Params) : Obj := (.mk (.type "tuple") none (.seq #[] 0) #[])
noncomputable def tp150 (_ : Params) : Obj := (.mk .none none (.func (.mk (.ofString "read") (.ofString "Text.read") (tpA (tpM 4 7)) (.stmts (tpB (tpM 4 7))) (tpC (tpM 4 7)) 0 [] .none .none .none .none none .none .none 0)) #[])
noncomputable def tp151 (_ : Params) : Obj := (.mk (.type "code") none (.fields #[(.str (.ofString "read") 317), (.str (.ofString "Text.read") 318), (.str (.ofString "/claim/cut.py") 319), (.int 58 0), (.int 3 0), (.int 0 0), (.int 0 0), (.int 3 0), (.ref 104), (.bool true), (.int 181 0), (.ref 105), .none, (.ref 106), (.ref 107), (.ref 108), (.int 327 0), (.int 58 0), (.str (.ofString "/claim/cut.py") 328)]) #[])
noncomputable def tp152 (_ : Params) : Obj := (.mk (.type "function") none (.func (.mk (.ofString "read") (.ofString "Text.read") (tpA (tpM 4 7)) (.stmts (tpB (tpM 4 7))) (tpC (tpM 4 7)) 3 [] .none .none .none (.str (.ofString "moduleyard.texts") 236) none (.ref 109) .none 0)) #[])
noncomputable def tp153 (_ : Params) : Obj := (.mk (.type "tuple") none (.seq #[] 0) #[])
noncomputable def tp154 (_ : Params) : Obj := (.mk .none none (.fields #[]) #[])
noncomputable def tp155 (_ : Params) : Obj := (.mk (.type "tuple") none (.seq #[(.str (.ofString "self") 333)] 0) #[])
noncomputable def tp156 (_ : Params) : Obj := (.mk (.type "tuple") none (.seq #[] 0) #[])
noncomputable def tp157 (_ : Params) : Obj := (.mk .none none (.func (.mk (.ofString "whole") (.ofString "Text.whole") (tpA (tpM 4 8)) (.stmts (tpB (tpM 4 8))) (tpC (tpM 4 8)) 0 [] .none .none .none .none none .none .none 0)) #[])
noncomputable def tp158 (_ : Params) : Obj := (.mk (.type "code") none (.fields #[(.str (.ofString "whole") 330), (.str (.ofString "Text.whole") 331), (.str (.ofString "/claim/cut.py") 332), (.int 65 0), (.int 1 0), (.int 0 0), (.int 0 0), (.int 3 0), (.ref 111), (.bool true), (.int 181 0), (.ref 112), .none, (.ref 113), (.ref 114), (.ref 115), (.int 334 0), (.int 65 0), (.str (.ofString "/claim/cut.py") 335)]) #[])
noncomputable def tp159 (_ : Params) : Obj := (.mk (.type "function") none (.func (.mk (.ofString "whole") (.ofString "Text.whole") (tpA (tpM 4 8)) (.stmts (tpB (tpM 4 8))) (tpC (tpM 4 8)) 3 [] .none .none .none (.str (.ofString "moduleyard.texts") 236) none (.ref 116) .none 0)) #[])
noncomputable def tp160 (_ : Params) : Obj := (.mk (.type "tuple") none (.seq #[] 0) #[])
noncomputable def tp161 (_ : Params) : Obj := (.mk .none none (.fields #[]) #[])
noncomputable def tp162 (_ : Params) : Obj := (.mk (.type "tuple") none (.seq #[(.str (.ofString "self") 340)] 0) #[])
noncomputable def tp163 (_ : Params) : Obj := (.mk (.type "tuple") none (.seq #[] 0) #[])
noncomputable def tp164 (_ : Params) : Obj := (.mk .none none (.func (.mk (.ofString "undo") (.ofString "Text.undo") (tpA (tpM 4 9)) (.stmts (tpB (tpM 4 9))) (tpC (tpM 4 9)) 0 [] .none .none .none .none none .none .none 0)) #[])
noncomputable def tp165 (_ : Params) : Obj := (.mk (.type "code") none (.fields #[(.str (.ofString "undo") 337), (.str (.ofString "Text.undo") 338), (.str (.ofString "/claim/cut.py") 339), (.int 68 0), (.int 1 0), (.int 0 0), (.int 0 0), (.int 3 0), (.ref 118), (.bool true), (.int 181 0), (.ref 119), .none, (.ref 120), (.ref 121), (.ref 122), (.int 341 0), (.int 68 0), (.str (.ofString "/claim/cut.py") 342)]) #[])
noncomputable def tp166 (_ : Params) : Obj := (.mk (.type "function") none (.func (.mk (.ofString "undo") (.ofString "Text.undo") (tpA (tpM 4 9)) (.stmts (tpB (tpM 4 9))) (tpC (tpM 4 9)) 3 [] .none .none .none (.str (.ofString "moduleyard.texts") 236) none (.ref 123) .none 0)) #[])
noncomputable def tp167 (_ : Params) : Obj := (.mk (.type "tuple") none (.seq #[] 0) #[])
noncomputable def tp168 (_ : Params) : Obj := (.mk .none none (.fields #[]) #[])
noncomputable def tp169 (_ : Params) : Obj := (.mk (.type "tuple") none (.seq #[(.str (.ofString "self") 347)] 0) #[])
noncomputable def tp170 (_ : Params) : Obj := (.mk (.type "tuple") none (.seq #[] 0) #[])
noncomputable def tp171 (_ : Params) : Obj := (.mk .none none (.func (.mk (.ofString "redo") (.ofString "Text.redo") (tpA (tpM 4 10)) (.stmts (tpB (tpM 4 10))) (tpC (tpM 4 10)) 0 [] .none .none .none .none none .none .none 0)) #[])
noncomputable def tp172 (_ : Params) : Obj := (.mk (.type "code") none (.fields #[(.str (.ofString "redo") 344), (.str (.ofString "Text.redo") 345), (.str (.ofString "/claim/cut.py") 346), (.int 75 0), (.int 1 0), (.int 0 0), (.int 0 0), (.int 3 0), (.ref 125), (.bool true), (.int 181 0), (.ref 126), .none, (.ref 127), (.ref 128), (.ref 129), (.int 348 0), (.int 75 0), (.str (.ofString "/claim/cut.py") 349)]) #[])
noncomputable def tp173 (_ : Params) : Obj := (.mk (.type "function") none (.func (.mk (.ofString "redo") (.ofString "Text.redo") (tpA (tpM 4 10)) (.stmts (tpB (tpM 4 10))) (tpC (tpM 4 10)) 3 [] .none .none .none (.str (.ofString "moduleyard.texts") 236) none (.ref 130) .none 0)) #[])
noncomputable def tp174 (_ : Params) : Obj := (.mk (.type "tuple") none (.seq #[(.str (.ofString "buffers") 351), (.str (.ofString "future") 352), (.str (.ofString "past") 353), (.str (.ofString "pieces") 354)] 0) #[])
noncomputable def tp175 (P : Params) : Obj := (.mk (.type "dict") none (.dict #[(.mk (PyData.keyHash P (.ofString "__module__")) (.str (.ofString "__module__") 245) (.str (.ofString "moduleyard.texts") 236)), (.mk (PyData.keyHash P (.ofString "__firstlineno__")) (.str (.ofString "__firstlineno__") 249) (.int 10 248)), (.mk (PyData.keyHash P (.ofString "__init__")) (.str (.ofString "__init__") 258) (.ref 61)), (.mk (PyData.keyHash P (.ofString "length")) (.str (.ofString "length") 269) (.ref 68)), (.mk (PyData.keyHash P (.ofString "check")) (.str (.ofString "check") 278) (.ref 75)), (.mk (PyData.keyHash P (.ofString "change")) (.str (.ofString "change") 286) (.ref 82)), (.mk (PyData.keyHash P (.ofString "insert")) (.str (.ofString "insert") 296) (.ref 89)), (.mk (PyData.keyHash P (.ofString "delete")) (.str (.ofString "delete") 305) (.ref 96)), (.mk (PyData.keyHash P (.ofString "replace")) (.str (.ofString "replace") 316) (.ref 103)), (.mk (PyData.keyHash P (.ofString "read")) (.str (.ofString "read") 329) (.ref 110)), (.mk (PyData.keyHash P (.ofString "whole")) (.str (.ofString "whole") 336) (.ref 117)), (.mk (PyData.keyHash P (.ofString "undo")) (.str (.ofString "undo") 343) (.ref 124)), (.mk (PyData.keyHash P (.ofString "redo")) (.str (.ofString "redo") 350) (.ref 131)), (.mk (PyData.keyHash P (.ofString "__static_attributes__")) (.str (.ofString "__static_attributes__") 355) (.ref 132)), (.mk (PyData.keyHash P (.ofString "__dict__")) (.str (.ofString "__dict__") 357) (.ref 135)), (.mk (PyData.keyHash P (.ofString "__weakref__")) (.str (.ofString "__weakref__") 359) (.ref 136)), (.mk (PyData.keyHash P (.ofString "__doc__")) (.str (.ofString "__doc__") 360) .none)] 4) #[])
noncomputable def tp176 (_ : Params) : Obj := (.mk (.type "type") none (.cls (.mk (.ofString "Text") [(.type "object")] [(.ref 134), (.type "object")] 133 (.ofString "Text") true [] [] false none false)) #[none, none, (some (.str (.ofString "Text") 238)), (some (.str (.ofString "Text") 246)), (some (.builtin "object.__new__")), (some (.bool true))])
noncomputable def tp177 (_ : Params) : Obj := (.mk (.type "getset_descriptor") none (.fields #[(.str (.ofString "__dict__") 356), (.ref 134), (.builtin "function.__dict__"), (.builtin "function.__dict__#set")]) #[])
noncomputable def tp178 (_ : Params) : Obj := (.mk (.type "getset_descriptor") none (.fields #[(.str (.ofString "__weakref__") 358), (.ref 134), (.builtin "ExceptionGroup.__weakref__"), .none]) #[])
noncomputable def tp179 (_ : Params) : Obj := (.mk (.type "super") none (.fields #[(.ref 134), (.ref 134), (.ref 134)]) #[])
noncomputable def tp180 (_ : Params) : Obj := (.mk (.type "builtin_function_or_method") none (.fields #[(.builtin "object.__init_subclass__"), (.ref 134)]) #[])
noncomputable def tp181 (P : Params) : Obj := (.mk (.type "dict") none (.dict #[(.mk (PyData.keyHash P (.ofString "__name__")) (.str (.ofString "__name__") 165) (.str (.ofString "law_on0209_01") 438)), (.mk (PyData.keyHash P (.ofString "__doc__")) (.str (.ofString "__doc__") 166) .none), (.mk (PyData.keyHash P (.ofString "__package__")) (.str (.ofString "__package__") 167) .none), (.mk (PyData.keyHash P (.ofString "__loader__")) (.str (.ofString "__loader__") 168) (.builtin (.ofList ['_', '_', 'm', 'a', 'i', 'n', '_', '_', '.', '_', '_', 'l', 'o', 'a', 'd', 'e', 'r', '_', '_', '#', 'o', 'p', 'a', 'q', 'u', 'e']))), (.mk (PyData.keyHash P (.ofString "__spec__")) (.str (.ofString "__spec__") 169) .none), (.mk (PyData.keyHash P (.ofString "__annotations__")) (.str (.ofString "__annotations__") 170) (.ref 6)), (.mk (PyData.keyHash P (.ofString "__builtins__")) (.str (.ofString "__builtins__") 171) (.ref 4)), (.mk (PyData.keyHash P (.ofString "__file__")) (.str (.ofString "__file__") 173) (.str (.ofString "/claim/cut.py") 172)), (.mk (PyData.keyHash P (.ofString "__cached__")) (.str (.ofString "__cached__") 174) .none), (.mk (PyData.keyHash P (.ofString "YardError")) (.str (.ofString "YardError") 208) (.ref 24)), (.mk (PyData.keyHash P (.ofString "FormatError")) (.str (.ofString "FormatError") 235) (.ref 44)), (.mk (PyData.keyHash P (.ofString "Text")) (.str (.ofString "Text") 362) (.ref 134)), (.mk (PyData.keyHash P (.ofString "cut")) (.str (.ofString "cut") 378) (.ref 145)), (.mk (PyData.keyHash P (.ofString "joined_pieces")) (.str (.ofString "joined_pieces") 392) (.ref 152)), (.mk (PyData.keyHash P (.ofString "fallbacks")) (.str (.ofString "fallbacks") 402) (.ref 159)), (.mk (PyData.keyHash P (.ofString "find")) (.str (.ofString "find") 416) (.ref 166)), (.mk (PyData.keyHash P (.ofString "replace_all")) (.str (.ofString "replace_all") 427) (.ref 173)), (.mk (PyData.keyHash P (.ofString "line_starts")) (.str (.ofString "line_starts") 437) (.ref 180)), (.mk (PyData.keyHash P (.ofString "_law_figures")) (.str (.ofString "_law_figures") 450) (.ref 187)), (.mk (PyData.keyHash P (.ofString "_law_draw")) (.str (.ofString "_law_draw") 458) (.ref 194)), (.mk (PyData.keyHash P (.ofString "_law_letters")) (.str (.ofString "_law_letters") 464) (.ref 199)), (.mk (PyData.keyHash P (.ofString "_law_first")) (.str (.ofString "_law_first") 474) (.ref 206)), (.mk (PyData.keyHash P (.ofString "_law_put")) (.str (.ofString "_law_put") 486) (.ref 213)), (.mk (PyData.keyHash P (.ofString "law")) (.str (.ofString "law") 492) (.ref 218))] 24) #[])
noncomputable def tp182 (_ : Params) : Obj := (.mk .none none (.fields #[(.int 2 0), (.int 0 0), (.ref 20), (.int 4 0), (.int 0 0), (.ref 33), (.int 10 0), (.int 0 0), (.ref 52), (.int 81 0), (.int 0 0), (.ref 144), (.int 91 0), (.int 0 0), (.ref 151), (.int 101 0), (.int 0 0), (.ref 158), (.int 111 0), (.int 0 0), (.ref 165), (.int 129 0), (.int 0 0), (.ref 172), (.int 137 0), (.int 0 0), (.ref 179), (.int 146 0), (.int 0 0), (.ref 186), (.int 159 0), (.int 0 0), (.ref 193), (.int 161 0), (.int 0 0), (.ref 198), (.int 163 0), (.int 0 0), (.ref 205), (.int 168 0), (.int 0 0), (.ref 212), (.int 181 0), (.int 0 0), (.ref 217)]) #[])
noncomputable def tp183 (_ : Params) : Obj := (.mk (.type "tuple") none (.seq #[] 0) #[])
noncomputable def tp184 (_ : Params) : Obj := (.mk .none none (.fields #[]) #[])
noncomputable def tp185 (_ : Params) : Obj := (.mk (.type "tuple") none (.seq #[(.str (.ofString "pieces") 366), (.str (.ofString "begin") 367), (.str (.ofString "end") 368), (.str (.ofString "found") 369), (.str (.ofString "place") 370), (.str (.ofString "buffer") 371), (.str (.ofString "first") 372), (.str (.ofString "count") 373), (.str (.ofString "low") 374), (.str (.ofString "high") 375)] 0) #[])
noncomputable def tp186 (_ : Params) : Obj := (.mk (.type "tuple") none (.seq #[] 0) #[])
noncomputable def tp187 (_ : Params) : Obj := (.mk .none none (.func (.mk (.ofString "cut") (.ofString "cut") (tpA (tpS 5)) (.stmts (tpB (tpS 5))) (tpC (tpS 5)) 0 [] .none .none .none .none none .none .none 0)) #[])
noncomputable def tp188 (_ : Params) : Obj := (.mk (.type "code") none (.fields #[(.str (.ofString "cut") 363), (.str (.ofString "cut") 364), (.str (.ofString "/claim/cut.py") 365), (.int 81 0), (.int 3 0), (.int 0 0), (.int 0 0), (.int 3 0), (.ref 139), (.bool true), (.int 181 0), (.ref 140), .none, (.ref 141), (.ref 142), (.ref 143), (.int 376 0), (.int 81 0), (.str (.ofString "/claim/cut.py") 377)]) #[])
noncomputable def tp189 (_ : Params) : Obj := (.mk (.type "function") none (.func (.mk (.ofString "cut") (.ofString "cut") (tpA (tpS 5)) (.stmts (tpB (tpS 5))) (tpC (tpS 5)) 3 [] .none .none .none (.str (.ofString "moduleyard.texts") 236) none (.ref 144) .none 0)) #[])
noncomputable def tp190 (_ : Params) : Obj := (.mk (.type "tuple") none (.seq #[] 0) #[])
noncomputable def tp191 (_ : Params) : Obj := (.mk .none none (.fields #[]) #[])
noncomputable def tp192 (_ : Params) : Obj := (.mk (.type "tuple") none (.seq #[(.str (.ofString "pieces") 382), (.str (.ofString "found") 383), (.str (.ofString "buffer") 384), (.str (.ofString "first") 385), (.str (.ofString "count") 386), (.str (.ofString "before") 387), (.str (.ofString "begin") 388), (.str (.ofString "size") 389)] 0) #[])
noncomputable def tp193 (_ : Params) : Obj := (.mk (.type "tuple") none (.seq #[] 0) #[])
noncomputable def tp194 (_ : Params) : Obj := (.mk .none none (.func (.mk (.ofString "joined_pieces") (.ofString "joined_pieces") (tpA (tpS 6)) (.stmts (tpB (tpS 6))) (tpC (tpS 6)) 0 [] .none .none .none .none none .none .none 0)) #[])
noncomputable def tp195 (_ : Params) : Obj := (.mk (.type "code") none (.fields #[(.str (.ofString "joined_pieces") 379), (.str (.ofString "joined_pieces") 380), (.str (.ofString "/claim/cut.py") 381), (.int 91 0), (.int 1 0), (.int 0 0), (.int 0 0), (.int 3 0), (.ref 146), (.bool true), (.int 181 0), (.ref 147), .none, (.ref 148), (.ref 149), (.ref 150), (.int 390 0), (.int 91 0), (.str (.ofString "/claim/cut.py") 391)]) #[])
noncomputable def tp196 (_ : Params) : Obj := (.mk (.type "function") none (.func (.mk (.ofString "joined_pieces") (.ofString "joined_pieces") (tpA (tpS 6)) (.stmts (tpB (tpS 6))) (tpC (tpS 6)) 3 [] .none .none .none (.str (.ofString "moduleyard.texts") 236) none (.ref 151) .none 0)) #[])
noncomputable def tp197 (_ : Params) : Obj := (.mk (.type "tuple") none (.seq #[] 0) #[])
noncomputable def tp198 (_ : Params) : Obj := (.mk .none none (.fields #[]) #[])
noncomputable def tp199 (_ : Params) : Obj := (.mk (.type "tuple") none (.seq #[(.str (.ofString "pattern") 396), (.str (.ofString "found") 397), (.str (.ofString "count") 398), (.str (.ofString "place") 399)] 0) #[])
noncomputable def tp200 (_ : Params) : Obj := (.mk (.type "tuple") none (.seq #[] 0) #[])
noncomputable def tp201 (_ : Params) : Obj := (.mk .none none (.func (.mk (.ofString "fallbacks") (.ofString "fallbacks") (tpA (tpS 7)) (.stmts (tpB (tpS 7))) (tpC (tpS 7)) 0 [] .none .none .none .none none .none .none 0)) #[])
noncomputable def tp202 (_ : Params) : Obj := (.mk (.type "code") none (.fields #[(.str (.ofString "fallbacks") 393), (.str (.ofString "fallbacks") 394), (.str (.ofString "/claim/cut.py") 395), (.int 101 0), (.int 1 0), (.int 0 0), (.int 0 0), (.int 3 0), (.ref 153), (.bool true), (.int 181 0), (.ref 154), .none, (.ref 155), (.ref 156), (.ref 157), (.int 400 0), (.int 101 0), (.str (.ofString "/claim/cut.py") 401)]) #[])
noncomputable def tp203 (_ : Params) : Obj := (.mk (.type "function") none (.func (.mk (.ofString "fallbacks") (.ofString "fallbacks") (tpA (tpS 7)) (.stmts (tpB (tpS 7))) (tpC (tpS 7)) 3 [] .none .none .none (.str (.ofString "moduleyard.texts") 236) none (.ref 158) .none 0)) #[])
noncomputable def tp204 (_ : Params) : Obj := (.mk (.type "tuple") none (.seq #[] 0) #[])
noncomputable def tp205 (_ : Params) : Obj := (.mk .none none (.fields #[]) #[])
noncomputable def tp206 (_ : Params) : Obj := (.mk (.type "tuple") none (.seq #[(.str (.ofString "text") 406), (.str (.ofString "pattern") 407), (.str (.ofString "begin") 408), (.str (.ofString "size") 409), (.str (.ofString "rows") 410), (.str (.ofString "count") 411), (.str (.ofString "place") 412), (.str (.ofString "char") 413)] 0) #[])
noncomputable def tp207 (_ : Params) : Obj := (.mk (.type "tuple") none (.seq #[] 0) #[])
noncomputable def tp208 (_ : Params) : Obj := (.mk .none none (.func (.mk (.ofString "find") (.ofString "find") (tpA (tpS 8)) (.stmts (tpB (tpS 8))) (tpC (tpS 8)) 0 [] .none .none .none .none none .none .none 0)) #[])
noncomputable def tp209 (_ : Params) : Obj := (.mk (.type "code") none (.fields #[(.str (.ofString "find") 403), (.str (.ofString "find") 404), (.str (.ofString "/claim/cut.py") 405), (.int 111 0), (.int 3 0), (.int 0 0), (.int 0 0), (.int 3 0), (.ref 160), (.bool true), (.int 181 0), (.ref 161), .none, (.ref 162), (.ref 163), (.ref 164), (.int 414 0), (.int 111 0), (.str (.ofString "/claim/cut.py") 415)]) #[])
noncomputable def tp210 (_ : Params) : Obj := (.mk (.type "function") none (.func (.mk (.ofString "find") (.ofString "find") (tpA (tpS 8)) (.stmts (tpB (tpS 8))) (tpC (tpS 8)) 3 [] .none .none .none (.str (.ofString "moduleyard.texts") 236) none (.ref 165) .none 0)) #[])
noncomputable def tp211 (_ : Params) : Obj := (.mk (.type "tuple") none (.seq #[] 0) #[])
noncomputable def tp212 (_ : Params) : Obj := (.mk .none none (.fields #[]) #[])
noncomputable def tp213 (_ : Params) : Obj := (.mk (.type "tuple") none (.seq #[(.str (.ofString "text") 420), (.str (.ofString "pattern") 421), (.str (.ofString "added") 422), (.str (.ofString "found") 423), (.str (.ofString "place") 424)] 0) #[])
noncomputable def tp214 (_ : Params) : Obj := (.mk (.type "tuple") none (.seq #[] 0) #[])
noncomputable def tp215 (_ : Params) : Obj := (.mk .none none (.func (.mk (.ofString "replace_all") (.ofString "replace_all") (tpA (tpS 9)) (.stmts (tpB (tpS 9))) (tpC (tpS 9)) 0 [] .none .none .none .none none .none .none 0)) #[])
noncomputable def tp216 (_ : Params) : Obj := (.mk (.type "code") none (.fields #[(.str (.ofString "replace_all") 417), (.str (.ofString "replace_all") 418), (.str (.ofString "/claim/cut.py") 419), (.int 129 0), (.int 3 0), (.int 0 0), (.int 0 0), (.int 3 0), (.ref 167), (.bool true), (.int 181 0), (.ref 168), .none, (.ref 169), (.ref 170), (.ref 171), (.int 425 0), (.int 129 0), (.str (.ofString "/claim/cut.py") 426)]) #[])
noncomputable def tp217 (_ : Params) : Obj := (.mk (.type "function") none (.func (.mk (.ofString "replace_all") (.ofString "replace_all") (tpA (tpS 9)) (.stmts (tpB (tpS 9))) (tpC (tpS 9)) 3 [] .none .none .none (.str (.ofString "moduleyard.texts") 236) none (.ref 172) .none 0)) #[])
noncomputable def tp218 (_ : Params) : Obj := (.mk (.type "tuple") none (.seq #[] 0) #[])
noncomputable def tp219 (_ : Params) : Obj := (.mk .none none (.fields #[]) #[])
noncomputable def tp220 (_ : Params) : Obj := (.mk (.type "tuple") none (.seq #[(.str (.ofString "text") 431), (.str (.ofString "found") 432), (.str (.ofString "place") 433), (.str (.ofString "char") 434)] 0) #[])
noncomputable def tp221 (_ : Params) : Obj := (.mk (.type "tuple") none (.seq #[] 0) #[])
noncomputable def tp222 (_ : Params) : Obj := (.mk .none none (.func (.mk (.ofString "line_starts") (.ofString "line_starts") (tpA (tpS 10)) (.stmts (tpB (tpS 10))) (tpC (tpS 10)) 0 [] .none .none .none .none none .none .none 0)) #[])
noncomputable def tp223 (_ : Params) : Obj := (.mk (.type "code") none (.fields #[(.str (.ofString "line_starts") 428), (.str (.ofString "line_starts") 429), (.str (.ofString "/claim/cut.py") 430), (.int 137 0), (.int 1 0), (.int 0 0), (.int 0 0), (.int 3 0), (.ref 174), (.bool true), (.int 181 0), (.ref 175), .none, (.ref 176), (.ref 177), (.ref 178), (.int 435 0), (.int 137 0), (.str (.ofString "/claim/cut.py") 436)]) #[])
noncomputable def tp224 (_ : Params) : Obj := (.mk (.type "function") none (.func (.mk (.ofString "line_starts") (.ofString "line_starts") (tpA (tpS 10)) (.stmts (tpB (tpS 10))) (tpC (tpS 10)) 3 [] .none .none .none (.str (.ofString "moduleyard.texts") 236) none (.ref 179) .none 0)) #[])
noncomputable def tp225 (_ : Params) : Obj := (.mk (.type "tuple") none (.seq #[] 0) #[])
noncomputable def tp226 (_ : Params) : Obj := (.mk .none none (.fields #[]) #[])
noncomputable def tp227 (_ : Params) : Obj := (.mk (.type "tuple") none (.seq #[(.str (.ofString "script") 443), (.str (.ofString "found") 444), (.str (.ofString "cell") 445), (.str (.ofString "figure") 446), (.str (.ofString "lap") 447)] 0) #[])
noncomputable def tp228 (_ : Params) : Obj := (.mk (.type "tuple") none (.seq #[] 0) #[])
noncomputable def tp229 (_ : Params) : Obj := (.mk .none none (.func (.mk (.ofString "_law_figures") (.ofString "_law_figures") (tpA (tpS 12)) (.stmts (tpB (tpS 12))) (tpC (tpS 12)) 0 [] .none .none .none .none none .none .none 0)) #[])
noncomputable def tp230 (_ : Params) : Obj := (.mk (.type "code") none (.fields #[(.str (.ofString "_law_figures") 440), (.str (.ofString "_law_figures") 441), (.str (.ofString "/claim/cut.py") 442), (.int 146 0), (.int 1 0), (.int 0 0), (.int 0 0), (.int 3 0), (.ref 181), (.bool true), (.int 181 0), (.ref 182), .none, (.ref 183), (.ref 184), (.ref 185), (.int 448 0), (.int 146 0), (.str (.ofString "/claim/cut.py") 449)]) #[])
noncomputable def tp231 (_ : Params) : Obj := (.mk (.type "function") none (.func (.mk (.ofString "_law_figures") (.ofString "_law_figures") (tpA (tpS 12)) (.stmts (tpB (tpS 12))) (tpC (tpS 12)) 3 [] .none .none .none (.str (.ofString "law_on0209_01") 438) none (.ref 186) .none 0)) #[])
noncomputable def tp232 (_ : Params) : Obj := (.mk (.type "tuple") none (.seq #[] 0) #[])
noncomputable def tp233 (_ : Params) : Obj := (.mk .none none (.fields #[]) #[])
noncomputable def tp234 (_ : Params) : Obj := (.mk (.type "tuple") none (.seq #[(.str (.ofString "figures") 454), (.str (.ofString "limit") 455)] 0) #[])
noncomputable def tp235 (_ : Params) : Obj := (.mk (.type "tuple") none (.seq #[] 0) #[])
noncomputable def tp236 (_ : Params) : Obj := (.mk .none none (.func (.mk (.ofString "_law_draw") (.ofString "_law_draw") (tpA (tpS 13)) (.stmts (tpB (tpS 13))) (tpC (tpS 13)) 0 [] .none .none .none .none none .none .none 0)) #[])
noncomputable def tp237 (_ : Params) : Obj := (.mk (.type "code") none (.fields #[(.str (.ofString "_law_draw") 451), (.str (.ofString "_law_draw") 452), (.str (.ofString "/claim/cut.py") 453), (.int 159 0), (.int 2 0), (.int 0 0), (.int 0 0), (.int 3 0), (.ref 188), (.bool true), (.int 181 0), (.ref 189), .none, (.ref 190), (.ref 191), (.ref 192), (.int 456 0), (.int 159 0), (.str (.ofString "/claim/cut.py") 457)]) #[])
noncomputable def tp238 (_ : Params) : Obj := (.mk (.type "function") none (.func (.mk (.ofString "_law_draw") (.ofString "_law_draw") (tpA (tpS 13)) (.stmts (tpB (tpS 13))) (tpC (tpS 13)) 3 [] .none .none .none (.str (.ofString "law_on0209_01") 438) none (.ref 193) .none 0)) #[])
noncomputable def tp239 (_ : Params) : Obj := (.mk (.type "tuple") none (.seq #[] 0) #[])
noncomputable def tp240 (_ : Params) : Obj := (.mk .none none (.fields #[]) #[])
noncomputable def tp241 (_ : Params) : Obj := (.mk .none none (.func (.mk (.ofString "_law_letters") (.ofString "_law_letters") (tpA (tpS 14)) (.stmts (tpB (tpS 14))) (tpC (tpS 14)) 0 [] .none .none .none .none none .none .none 0)) #[])
noncomputable def tp242 (_ : Params) : Obj := (.mk (.type "code") none (.fields #[(.str (.ofString "_law_letters") 459), (.str (.ofString "_law_letters") 460), (.str (.ofString "/claim/cut.py") 461), (.int 161 0), (.int 2 0), (.int 0 0), (.int 0 0), (.int 3 0), (.ref 195), (.bool true), (.int 181 0), (.ref 196), .none, .none, .none, (.ref 197), (.int 462 0), (.int 161 0), (.str (.ofString "/claim/cut.py") 463)]) #[])
noncomputable def tp243 (_ : Params) : Obj := (.mk (.type "function") none (.func (.mk (.ofString "_law_letters") (.ofString "_law_letters") (tpA (tpS 14)) (.stmts (tpB (tpS 14))) (tpC (tpS 14)) 3 [] .none .none .none (.str (.ofString "law_on0209_01") 438) none (.ref 198) .none 0)) #[])
noncomputable def tp244 (_ : Params) : Obj := (.mk (.type "tuple") none (.seq #[] 0) #[])
noncomputable def tp245 (_ : Params) : Obj := (.mk .none none (.fields #[]) #[])
noncomputable def tp246 (_ : Params) : Obj := (.mk (.type "tuple") none (.seq #[(.str (.ofString "chars") 468), (.str (.ofString "pattern") 469), (.str (.ofString "begun") 470), (.str (.ofString "spot") 471)] 0) #[])
noncomputable def tp247 (_ : Params) : Obj := (.mk (.type "tuple") none (.seq #[] 0) #[])
noncomputable def tp248 (_ : Params) : Obj := (.mk .none none (.func (.mk (.ofString "_law_first") (.ofString "_law_first") (tpA (tpS 15)) (.stmts (tpB (tpS 15))) (tpC (tpS 15)) 0 [] .none .none .none .none none .none .none 0)) #[])
noncomputable def tp249 (_ : Params) : Obj := (.mk (.type "code") none (.fields #[(.str (.ofString "_law_first") 465), (.str (.ofString "_law_first") 466), (.str (.ofString "/claim/cut.py") 467), (.int 163 0), (.int 3 0), (.int 0 0), (.int 0 0), (.int 3 0), (.ref 200), (.bool true), (.int 181 0), (.ref 201), .none, (.ref 202), (.ref 203), (.ref 204), (.int 472 0), (.int 163 0), (.str (.ofString "/claim/cut.py") 473)]) #[])
noncomputable def tp250 (_ : Params) : Obj := (.mk (.type "function") none (.func (.mk (.ofString "_law_first") (.ofString "_law_first") (tpA (tpS 15)) (.stmts (tpB (tpS 15))) (tpC (tpS 15)) 3 [] .none .none .none (.str (.ofString "law_on0209_01") 438) none (.ref 205) .none 0)) #[])
noncomputable def tp251 (_ : Params) : Obj := (.mk (.type "tuple") none (.seq #[] 0) #[])
noncomputable def tp252 (_ : Params) : Obj := (.mk .none none (.fields #[]) #[])
noncomputable def tp253 (_ : Params) : Obj := (.mk (.type "tuple") none (.seq #[(.str (.ofString "chars") 478), (.str (.ofString "pattern") 479), (.str (.ofString "added") 480), (.str (.ofString "pieces") 481), (.str (.ofString "many") 482), (.str (.ofString "spot") 483)] 0) #[])
noncomputable def tp254 (_ : Params) : Obj := (.mk (.type "tuple") none (.seq #[] 0) #[])
noncomputable def tp255 (_ : Params) : Obj := (.mk .none none (.func (.mk (.ofString "_law_put") (.ofString "_law_put") (tpA (tpS 16)) (.stmts (tpB (tpS 16))) (tpC (tpS 16)) 0 [] .none .none .none .none none .none .none 0)) #[])
noncomputable def tp256 (_ : Params) : Obj := (.mk (.type "code") none (.fields #[(.str (.ofString "_law_put") 475), (.str (.ofString "_law_put") 476), (.str (.ofString "/claim/cut.py") 477), (.int 168 0), (.int 3 0), (.int 0 0), (.int 0 0), (.int 3 0), (.ref 207), (.bool true), (.int 181 0), (.ref 208), .none, (.ref 209), (.ref 210), (.ref 211), (.int 484 0), (.int 168 0), (.str (.ofString "/claim/cut.py") 485)]) #[])
noncomputable def tp257 (_ : Params) : Obj := (.mk (.type "function") none (.func (.mk (.ofString "_law_put") (.ofString "_law_put") (tpA (tpS 16)) (.stmts (tpB (tpS 16))) (tpC (tpS 16)) 3 [] .none .none .none (.str (.ofString "law_on0209_01") 438) none (.ref 212) .none 0)) #[])
noncomputable def tp258 (_ : Params) : Obj := (.mk (.type "tuple") none (.seq #[] 0) #[])
noncomputable def tp259 (_ : Params) : Obj := (.mk .none none (.fields #[]) #[])
noncomputable def tp260 (_ : Params) : Obj := (.mk .none none (.func (.mk (.ofString "law") (.ofString "law") (tpA (tpS 17)) (.stmts (tpB (tpS 17))) (tpC (tpS 17)) 0 [] .none .none .none .none none .none .none 0)) #[])
noncomputable def tp261 (_ : Params) : Obj := (.mk (.type "code") none (.fields #[(.str (.ofString "law") 487), (.str (.ofString "law") 488), (.str (.ofString "/claim/cut.py") 489), (.int 181 0), (.int 1 0), (.int 0 0), (.int 0 0), (.int 3 0), (.ref 214), (.bool true), (.int 181 0), (.ref 215), .none, .none, .none, (.ref 216), (.int 490 0), (.int 181 0), (.str (.ofString "/claim/cut.py") 491)]) #[])
noncomputable def tp262 (_ : Params) : Obj := (.mk (.type "function") none (.func (.mk (.ofString "law") (.ofString "law") (tpA (tpS 17)) (.stmts (tpB (tpS 17))) (tpC (tpS 17)) 3 [] .none .none .none (.str (.ofString "law_on0209_01") 438) none (.ref 217) .none 0)) #[])
noncomputable def tpT47 (P : Params) : BT := (.node (boot_o_0 P) (.node (boot_o_1 P) (.node (boot_o_3 P) (.node (boot_o_7 P) .nil .nil) (.node (tp43 P) .nil .nil)) (.node (boot_o_5 P) (.node (boot_o_9 P) .nil .nil) (.node (tp45 P) .nil .nil))) (.node (boot_o_2 P) (.node (boot_o_4 P) (.node (boot_o_8 P) .nil .nil) (.node (tp44 P) .nil .nil)) (.node (boot_o_6 P) (.node (boot_o_10 P) .nil .nil) (.node (tp46 P) .nil .nil))))
noncomputable def tpT64 (P : Params) : BT := (.node (boot_o_0 P) (.node (boot_o_1 P) (.node (tp50 P) (.node (boot_o_7 P) (.node (tp52 P) .nil .nil) (.node (tp60 P) .nil .nil)) (.node (tp43 P) (.node (tp56 P) .nil .nil) (.node (tp64 P) .nil .nil))) (.node (boot_o_5 P) (.node (boot_o_9 P) (.node (tp54 P) .nil .nil) (.node (tp62 P) .nil .nil)) (.node (tp45 P) (.node (tp58 P) .nil .nil) .nil))) (.node (tp49 P) (.node (boot_o_4 P) (.node (boot_o_8 P) (.node (tp53 P) .nil .nil) (.node (tp61 P) .nil .nil)) (.node (tp51 P) (.node (tp57 P) .nil .nil) .nil)) (.node (boot_o_6 P) (.node (boot_o_10 P) (.node (tp55 P) .nil .nil) (.node (tp63 P) .nil .nil)) (.node (tp46 P) (.node (tp59 P) .nil .nil) .nil))))
noncomputable def tpT86 (P : Params) : BT := (.node (boot_o_0 P) (.node (boot_o_1 P) (.node (tp65 P) (.node (boot_o_7 P) (.node (tp52 P) (.node (tp71 P) .nil .nil) .nil) (.node (tp60 P) (.node (tp79 P) .nil .nil) .nil)) (.node (tp43 P) (.node (tp56 P) (.node (tp75 P) .nil .nil) .nil) (.node (tp64 P) (.node (tp83 P) .nil .nil) .nil))) (.node (boot_o_5 P) (.node (boot_o_9 P) (.node (tp54 P) (.node (tp73 P) .nil .nil) .nil) (.node (tp62 P) (.node (tp81 P) .nil .nil) .nil)) (.node (tp45 P) (.node (tp58 P) (.node (tp77 P) .nil .nil) .nil) (.node (tp69 P) (.node (tp85 P) .nil .nil) .nil)))) (.node (tp49 P) (.node (boot_o_4 P) (.node (boot_o_8 P) (.node (tp53 P) (.node (tp72 P) .nil .nil) .nil) (.node (tp67 P) (.node (tp80 P) .nil .nil) .nil)) (.node (tp66 P) (.node (tp57 P) (.node (tp76 P) .nil .nil) .nil) (.node (tp68 P) (.node (tp84 P) .nil .nil) .nil))) (.node (boot_o_6 P) (.node (boot_o_10 P) (.node (tp55 P) (.node (tp74 P) .nil .nil) .nil) (.node (tp63 P) (.node (tp82 P) .nil .nil) .nil)) (.node (tp46 P) (.node (tp59 P) (.node (tp78 P) .nil .nil) .nil) (.node (tp70 P) (.node (tp86 P) .nil .nil) .nil)))))
noncomputable def tpT180 (P : Params) : BT := (.node (boot_o_0 P) (.node (boot_o_1 P) (.node (tp87 P) (.node (boot_o_7 P) (.node (tp52 P) (.node (tp71 P) (.node (tp105 P) (.node (tp169 P) .nil .nil) .nil) (.node (tp137 P) .nil .nil)) (.node (tp89 P) (.node (tp121 P) .nil .nil) (.node (tp153 P) .nil .nil))) (.node (tp60 P) (.node (tp79 P) (.node (tp113 P) (.node (tp177 P) .nil .nil) .nil) (.node (tp145 P) .nil .nil)) (.node (tp97 P) (.node (tp129 P) .nil .nil) (.node (tp161 P) .nil .nil)))) (.node (tp43 P) (.node (tp56 P) (.node (tp75 P) (.node (tp109 P) (.node (tp173 P) .nil .nil) .nil) (.node (tp141 P) .nil .nil)) (.node (tp93 P) (.node (tp125 P) .nil .nil) (.node (tp157 P) .nil .nil))) (.node (tp64 P) (.node (tp83 P) (.node (tp117 P) .nil .nil) (.node (tp149 P) .nil .nil)) (.node (tp101 P) (.node (tp133 P) .nil .nil) (.node (tp165 P) .nil .nil))))) (.node (boot_o_5 P) (.node (boot_o_9 P) (.node (tp54 P) (.node (tp73 P) (.node (tp107 P) (.node (tp171 P) .nil .nil) .nil) (.node (tp139 P) .nil .nil)) (.node (tp91 P) (.node (tp123 P) .nil .nil) (.node (tp155 P) .nil .nil))) (.node (tp62 P) (.node (tp81 P) (.node (tp115 P) (.node (tp179 P) .nil .nil) .nil) (.node (tp147 P) .nil .nil)) (.node (tp99 P) (.node (tp131 P) .nil .nil) (.node (tp163 P) .nil .nil)))) (.node (tp45 P) (.node (tp58 P) (.node (tp77 P) (.node (tp111 P) (.node (tp175 P) .nil .nil) .nil) (.node (tp143 P) .nil .nil)) (.node (tp95 P) (.node (tp127 P) .nil .nil) (.node (tp159 P) .nil .nil))) (.node (tp69 P) (.node (tp85 P) (.node (tp119 P) .nil .nil) (.node (tp151 P) .nil .nil)) (.node (tp103 P) (.node (tp135 P) .nil .nil) (.node (tp167 P) .nil .nil)))))) (.node (tp49 P) (.node (boot_o_4 P) (.node (boot_o_8 P) (.node (tp53 P) (.node (tp72 P) (.node (tp106 P) (.node (tp170 P) .nil .nil) .nil) (.node (tp138 P) .nil .nil)) (.node (tp90 P) (.node (tp122 P) .nil .nil) (.node (tp154 P) .nil .nil))) (.node (tp67 P) (.node (tp80 P) (.node (tp114 P) (.node (tp178 P) .nil .nil) .nil) (.node (tp146 P) .nil .nil)) (.node (tp98 P) (.node (tp130 P) .nil .nil) (.node (tp162 P) .nil .nil)))) (.node (tp88 P) (.node (tp57 P) (.node (tp76 P) (.node (tp110 P) (.node (tp174 P) .nil .nil) .nil) (.node (tp142 P) .nil .nil)) (.node (tp94 P) (.node (tp126 P) .nil .nil) (.node (tp158 P) .nil .nil))) (.node (tp68 P) (.node (tp84 P) (.node (tp118 P) .nil .nil) (.node (tp150 P) .nil .nil)) (.node (tp102 P) (.node (tp134 P) .nil .nil) (.node (tp166 P) .nil .nil))))) (.node (boot_o_6 P) (.node (boot_o_10 P) (.node (tp55 P) (.node (tp74 P) (.node (tp108 P) (.node (tp172 P) .nil .nil) .nil) (.node (tp140 P) .nil .nil)) (.node (tp92 P) (.node (tp124 P) .nil .nil) (.node (tp156 P) .nil .nil))) (.node (tp63 P) (.node (tp82 P) (.node (tp116 P) (.node (tp180 P) .nil .nil) .nil) (.node (tp148 P) .nil .nil)) (.node (tp100 P) (.node (tp132 P) .nil .nil) (.node (tp164 P) .nil .nil)))) (.node (tp46 P) (.node (tp59 P) (.node (tp78 P) (.node (tp112 P) (.node (tp176 P) .nil .nil) .nil) (.node (tp144 P) .nil .nil)) (.node (tp96 P) (.node (tp128 P) .nil .nil) (.node (tp160 P) .nil .nil))) (.node (tp70 P) (.node (tp86 P) (.node (tp120 P) .nil .nil) (.node (tp152 P) .nil .nil)) (.node (tp104 P) (.node (tp136 P) .nil .nil) (.node (tp168 P) .nil .nil)))))))
noncomputable def tpT262 (P : Params) : BT := (.node (boot_o_0 P) (.node (boot_o_1 P) (.node (tp181 P) (.node (boot_o_7 P) (.node (tp52 P) (.node (tp71 P) (.node (tp105 P) (.node (tp169 P) .nil .nil) (.node (tp235 P) .nil .nil)) (.node (tp137 P) (.node (tp203 P) .nil .nil) .nil)) (.node (tp89 P) (.node (tp121 P) (.node (tp187 P) .nil .nil) (.node (tp251 P) .nil .nil)) (.node (tp153 P) (.node (tp219 P) .nil .nil) .nil))) (.node (tp60 P) (.node (tp79 P) (.node (tp113 P) (.node (tp177 P) .nil .nil) (.node (tp243 P) .nil .nil)) (.node (tp145 P) (.node (tp211 P) .nil .nil) .nil)) (.node (tp97 P) (.node (tp129 P) (.node (tp195 P) .nil .nil) (.node (tp259 P) .nil .nil)) (.node (tp161 P) (.node (tp227 P) .nil .nil) .nil)))) (.node (tp43 P) (.node (tp56 P) (.node (tp75 P) (.node (tp109 P) (.node (tp173 P) .nil .nil) (.node (tp239 P) .nil .nil)) (.node (tp141 P) (.node (tp207 P) .nil .nil) .nil)) (.node (tp93 P) (.node (tp125 P) (.node (tp191 P) .nil .nil) (.node (tp255 P) .nil .nil)) (.node (tp157 P) (.node (tp223 P) .nil .nil) .nil))) (.node (tp64 P) (.node (tp83 P) (.node (tp117 P) (.node (tp183 P) .nil .nil) (.node (tp247 P) .nil .nil)) (.node (tp149 P) (.node (tp215 P) .nil .nil) .nil)) (.node (tp101 P) (.node (tp133 P) (.node (tp199 P) .nil .nil) .nil) (.node (tp165 P) (.node (tp231 P) .nil .nil) .nil))))) (.node (boot_o_5 P) (.node (boot_o_9 P) (.node (tp54 P) (.node (tp73 P) (.node (tp107 P) (.node (tp171 P) .nil .nil) (.node (tp237 P) .nil .nil)) (.node (tp139 P) (.node (tp205 P) .nil .nil) .nil)) (.node (tp91 P) (.node (tp123 P) (.node (tp189 P) .nil .nil) (.node (tp253 P) .nil .nil)) (.node (tp155 P) (.node (tp221 P) .nil .nil) .nil))) (.node (tp62 P) (.node (tp81 P) (.node (tp115 P) (.node (tp179 P) .nil .nil) (.node (tp245 P) .nil .nil)) (.node (tp147 P) (.node (tp213 P) .nil .nil) .nil)) (.node (tp99 P) (.node (tp131 P) (.node (tp197 P) .nil .nil) (.node (tp261 P) .nil .nil)) (.node (tp163 P) (.node (tp229 P) .nil .nil) .nil)))) (.node (tp45 P) (.node (tp58 P) (.node (tp77 P) (.node (tp111 P) (.node (tp175 P) .nil .nil) (.node (tp241 P) .nil .nil)) (.node (tp143 P) (.node (tp209 P) .nil .nil) .nil)) (.node (tp95 P) (.node (tp127 P) (.node (tp193 P) .nil .nil) (.node (tp257 P) .nil .nil)) (.node (tp159 P) (.node (tp225 P) .nil .nil) .nil))) (.node (tp69 P) (.node (tp85 P) (.node (tp119 P) (.node (tp185 P) .nil .nil) (.node (tp249 P) .nil .nil)) (.node (tp151 P) (.node (tp217 P) .nil .nil) .nil)) (.node (tp103 P) (.node (tp135 P) (.node (tp201 P) .nil .nil) .nil) (.node (tp167 P) (.node (tp233 P) .nil .nil) .nil)))))) (.node (tp49 P) (.node (boot_o_4 P) (.node (boot_o_8 P) (.node (tp53 P) (.node (tp72 P) (.node (tp106 P) (.node (tp170 P) .nil .nil) (.node (tp236 P) .nil .nil)) (.node (tp138 P) (.node (tp204 P) .nil .nil) .nil)) (.node (tp90 P) (.node (tp122 P) (.node (tp188 P) .nil .nil) (.node (tp252 P) .nil .nil)) (.node (tp154 P) (.node (tp220 P) .nil .nil) .nil))) (.node (tp67 P) (.node (tp80 P) (.node (tp114 P) (.node (tp178 P) .nil .nil) (.node (tp244 P) .nil .nil)) (.node (tp146 P) (.node (tp212 P) .nil .nil) .nil)) (.node (tp98 P) (.node (tp130 P) (.node (tp196 P) .nil .nil) (.node (tp260 P) .nil .nil)) (.node (tp162 P) (.node (tp228 P) .nil .nil) .nil)))) (.node (tp182 P) (.node (tp57 P) (.node (tp76 P) (.node (tp110 P) (.node (tp174 P) .nil .nil) (.node (tp240 P) .nil .nil)) (.node (tp142 P) (.node (tp208 P) .nil .nil) .nil)) (.node (tp94 P) (.node (tp126 P) (.node (tp192 P) .nil .nil) (.node (tp256 P) .nil .nil)) (.node (tp158 P) (.node (tp224 P) .nil .nil) .nil))) (.node (tp68 P) (.node (tp84 P) (.node (tp118 P) (.node (tp184 P) .nil .nil) (.node (tp248 P) .nil .nil)) (.node (tp150 P) (.node (tp216 P) .nil .nil) .nil)) (.node (tp102 P) (.node (tp134 P) (.node (tp200 P) .nil .nil) .nil) (.node (tp166 P) (.node (tp232 P) .nil .nil) .nil))))) (.node (boot_o_6 P) (.node (boot_o_10 P) (.node (tp55 P) (.node (tp74 P) (.node (tp108 P) (.node (tp172 P) .nil .nil) (.node (tp238 P) .nil .nil)) (.node (tp140 P) (.node (tp206 P) .nil .nil) .nil)) (.node (tp92 P) (.node (tp124 P) (.node (tp190 P) .nil .nil) (.node (tp254 P) .nil .nil)) (.node (tp156 P) (.node (tp222 P) .nil .nil) .nil))) (.node (tp63 P) (.node (tp82 P) (.node (tp116 P) (.node (tp180 P) .nil .nil) (.node (tp246 P) .nil .nil)) (.node (tp148 P) (.node (tp214 P) .nil .nil) .nil)) (.node (tp100 P) (.node (tp132 P) (.node (tp198 P) .nil .nil) (.node (tp262 P) .nil .nil)) (.node (tp164 P) (.node (tp230 P) .nil .nil) .nil)))) (.node (tp46 P) (.node (tp59 P) (.node (tp78 P) (.node (tp112 P) (.node (tp176 P) .nil .nil) (.node (tp242 P) .nil .nil)) (.node (tp144 P) (.node (tp210 P) .nil .nil) .nil)) (.node (tp96 P) (.node (tp128 P) (.node (tp194 P) .nil .nil) (.node (tp258 P) .nil .nil)) (.node (tp160 P) (.node (tp226 P) .nil .nil) .nil))) (.node (tp70 P) (.node (tp86 P) (.node (tp120 P) (.node (tp186 P) .nil .nil) (.node (tp250 P) .nil .nil)) (.node (tp152 P) (.node (tp218 P) .nil .nil) .nil)) (.node (tp104 P) (.node (tp136 P) (.node (tp202 P) .nil .nil) .nil) (.node (tp168 P) (.node (tp234 P) .nil .nil) .nil)))))))

noncomputable def tpE : Env := { scope := PW.main.scope, locals := mainNs, globals := mainNs, cells := [], code := .ref 13, frame := some 14 }
noncomputable def tpCd : Code := .body (behindTheImports PW) tpE
noncomputable def tpL (i n : Nat) : List Stmt := ((behindTheImports PW).drop i).take n
abbrev tpQ : Pos := ⟨0, 0, 0, 0⟩
noncomputable abbrev tpZ (t : BT) (n k : Nat) (os : OsState) : SharedT := ⟨t, n, {}, #[], {}, k, os⟩
theorem tp_pre (w : World) (os : OsState) : topGo treeTable PW w 11 (some (.ref 6)) 12 ⟨boot_heap w.params, #[], boot_drawn, boot_toks, os⟩ (topStub PW) = some ((tpZ (tpT47 w.params) 15 187 os).abs, ⟨denote treeTable tpCd, tpCd, tpQ, [topFrame tpQ]⟩) := by kernel_rfl
theorem tp_block (w : World) (os : OsState) : segRun treeTable PW w 11 (some (.ref 6)) 1 1 (tpZ (tpT47 w.params) 15 187 os).abs (blockOf (behindTheImports PW) tpE tpCd tpQ [topFrame tpQ]) = some (.next, (tpZ (tpT47 w.params) 15 187 os).abs, tpCd, tpQ) := by kernel_rfl
theorem tp_one (w : World) (os : OsState) : segRunT treeTable PW w 11 (some (.ref 6)) 1 206 (tpZ (tpT47 w.params) 15 187 os) (piecesOf (tpL 0 2) tpE tpCd tpQ [topFrame tpQ]) = some (.next, tpZ (tpT64 w.params) 28 209 os, tpCd, ⟨2, 0, 3, 8⟩) := by rw [PySem.W.Fast.te10110043849684766642, PySem.W.Fast.te14364793385576792824]; kernel_rfl
theorem tp_two (w : World) (os : OsState) : segRunT treeTable PW w 11 (some (.ref 6)) 1 257 (tpZ (tpT64 w.params) 28 209 os) (piecesOf (tpL 2 2) tpE tpCd ⟨2, 0, 3, 8⟩ [topFrame tpQ]) = some (.next, tpZ (tpT86 w.params) 47 238 os, tpCd, ⟨9, 0, 9, 8⟩) := by rw [PySem.W.Fast.te10110043849684766642, PySem.W.Fast.te14364793385576792824]; kernel_rfl
theorem tp_three (w : World) (os : OsState) : segRunT treeTable PW w 11 (some (.ref 6)) 1 560 (tpZ (tpT86 w.params) 47 238 os) (piecesOf (tpL 4 1) tpE tpCd ⟨9, 0, 9, 8⟩ [topFrame tpQ]) = some (.next, tpZ (tpT180 w.params) 139 363 os, tpCd, ⟨10, 0, 80, 19⟩) := by rw [PySem.W.Fast.te10110043849684766642, PySem.W.Fast.te14364793385576792824]; kernel_rfl
theorem tp_four (w : World) (os : OsState) : segRunT treeTable PW w 11 (some (.ref 6)) 1 398 (tpZ (tpT180 w.params) 139 363 os) (piecesOf (tpL 5 13) tpE tpCd ⟨10, 0, 80, 19⟩ [topFrame tpQ]) = some (.next, tpZ (tpT262 w.params) 219 493 os, tpCd, ⟨181, 0, 213, 54⟩) := by rw [PySem.W.Fast.te10110043849684766642, PySem.W.Fast.te14364793385576792824]; kernel_rfl
theorem tp_fin (w : World) (os : OsState) : topRun treeTable PW w 11 (some (.ref 6)) 2 (tpZ (tpT262 w.params) 219 493 os).abs ⟨doneF .next, tpCd, ⟨181, 0, 213, 54⟩, [topFrame tpQ]⟩ = some (tpZ (tpT262 w.params) 219 493 os).abs := by kernel_rfl
theorem tp_body : behindTheImports PW = tpL 0 2 ++ (tpL 2 2 ++ (tpL 4 1 ++ (tpL 5 13 ++ []))) := by kernel_rfl
theorem tp_run (w : World) (os : OsState) : topRun treeTable PW w 11 (some (.ref 6)) (12 + (1 + (206 + (257 + (560 + (398 + 2)))))) ⟨boot_heap w.params, #[], boot_drawn, boot_toks, os⟩ (topStub PW) = some (tpZ (tpT262 w.params) 219 493 os).abs := by
  refine go_top (tp_pre w os) (piece_block (tp_block w os) ?_)
  rw [tp_body]
  exact piece_app (segRun_of (tp_one w os)) (piece_app (segRun_of (tp_two w os)) (piece_app (segRun_of (tp_three w os)) (piece_app (segRun_of (tp_four w os)) (piece_nil (tp_fin w os)))))
theorem tp_size (w : World) : ((boot_heap w.params).isNs mainGlobals && (#[] : Array GenState).size == 0, (boot_heap w.params).objs.size, (boot_heap w.params).nsMap mainGlobals "__annotations__") = (true, 11, some (.ref 6)) := by kernel_rfl
theorem tp_opens : opening PW = plainProg PW.main.scope.names := by kernel_rfl
theorem tp_fence (s : Shared) : fenceModules? PW s = some s := by kernel_rfl
noncomputable abbrev tpH (P : Params) : Heap := absHeap (tpT262 P) 219 {}
noncomputable abbrev tpEnd (w : World) (os : OsState) : Shared := ⟨tpH w.params, #[], {}, 493, os⟩
theorem tp_well (w : World) (os : OsState) : (staticsOk (importedModules PW.main.body) (boot_heap w.params) (tpH w.params) && namesBound PW (tpH w.params) && gensDone (tpEnd w os) && laidKept (boot_heap w.params) (tpH w.params)) = true := by kernel_rfl
theorem tp_left {q : Program} {loose : List Str} {Xt : Shared → Bool} {α : Type} {Yf : Shared → α} {Ya : World → α} {N : Nat}
    (a : ∀ w : World, (Nat.ble 1436 N, fun os => (openSeen q loose (importedModules PW.main.body) Xt true (tpEnd w os), Yf (tpEnd w os))) = (true, fun _ => (openGood q loose, Ya w))) : LeftO PW q loose Xt Yf Ya N := fun w₀ => by
  have hN : Nat.ble 1436 N = true := (Prod.mk.inj (a w₀)).1
  have a' : ∀ w os, openSeen q loose (importedModules PW.main.body) Xt true (tpEnd w os) = openGood q loose ∧ Yf (tpEnd w os) = Ya w := fun w os =>
    Prod.mk.inj (congrFun (Prod.mk.inj (a w)).2 os)
  exact LeftO.of_pieces (H₀ := boot_heap) (H₁ := tpH) (boot_open tp_opens (Nat.ble_eq.mpr (Nat.le_trans (by decide) (Nat.le_of_ble_eq_true hN))) tp_fence) tp_size tp_run hN
    (fun w => funext fun os => Prod.ext (tp_well w os) (Prod.ext (a' w os).1 (a' w os).2)) w₀

end Mine
-- open_top asks for the head by its name: inside Mine it meets this one. It wants of the top what Top.lean has not shown yet (the looks at the last state), and says the rest itself.
theorem Mine.PySem.W.holds_open {q : Program} {loose : List Str} {Xt : Shared → Bool} {XP : (Str → Option Value) → Heap → Prop} {α : Type} {Yf : Shared → α} {Ya : World → α} {YP : World → Heap → Prop} {d : DefRec} {kwd : List (Str × PySem.Expr)} {N : Nat}
    (a : ∀ w : World, (Nat.ble 1436 N, fun os => (openSeen q loose (importedModules PW.main.body) Xt true (tpEnd w os), Yf (tpEnd w os))) = (true, fun _ => (openGood q loose, Ya w)))
    (b : ∀ w s, Yf s = Ya w → YP w s.heap) (c : ∀ w h h', YP w h → (∀ b o, h.get? b = some o → h'.get? b = some o) → YP w h')
    (e : ∀ s, Xt s = true → XP (s.heap.nsMap mainGlobals) s.heap) (f : ∀ mg h h', XP mg h → (∀ b o, h.get? b = some o → h'.get? b = some o) → XP mg h')
    (g : defOf q PySem.Challenge.rw_on0209_01.row.name = some (d, kwd)) (i : PW.theDef PySem.Challenge.rw_on0209_01.row.name = some (d.params, d.body, d.scope)) (j : kwWritten? d.params.kwonlyargs d.params.kw_defaults = some kwd)
    (k : ∀ s, Xt s = true → RecFacts PySem.Challenge.rw_on0209_01.row.records s.heap) (l : (!PySem.Challenge.rw_on0209_01.row.writes || PySem.Challenge.rw_on0209_01.row.records.isEmpty) = true)
    (m : PySem.Challenge.rw_on0209_01.row.wellSaid = true) (o : (chainsOk q && opensWell PW && (frees PySem.Challenge.rw_on0209_01.row.toRowW && PySem.Challenge.rw_on0209_01.row.within.isEmpty)) = true) (t : PW.bare) (u : PySem.Challenge.rw_on0209_01.row.toRowW.promised)
    (v : WalkO q loose XP YP PySem.Challenge.rw_on0209_01.row.toRowW d kwd fun f vs => PySem.call f vs) : PySem.Challenge.rw_on0209_01.row.Holds := _root_.PySem.W.holds_open (r := PySem.Challenge.rw_on0209_01.row) (tp_left a) b c e f g i j k l m o t u v
namespace Mine
set_option maxRecDepth 100000 in
set_option maxHeartbeats 8000000 in
open_top hd for PySem.Challenge.rw_on0209_01

theorem off_Base : True := by w_top off; exact trivial
abbrev Led := List (Addr × Obj)
noncomputable abbrev KK (w : World) : Frag := Mine.hd.heap_39 w.params

def put (d : Addr) (o : Obj) (φ : Led) : Led := (d, o) :: φ.filter (fun p => decide (p.1 ≠ d))
theorem put_self (d : Addr) (o : Obj) (φ : Led) : (d, o) ∈ put d o φ := List.Mem.head _
theorem put_of {d : Addr} {o : Obj} {φ : Led} {p : Addr × Obj} (hp : p ∈ φ) (h : p.1 ≠ d) : p ∈ put d o φ :=
  List.Mem.tail _ (List.mem_filter.mpr ⟨hp, decide_eq_true h⟩)
theorem put_inv {d : Addr} {o : Obj} {φ : Led} {p : Addr × Obj} (hp : p ∈ put d o φ) : p = (d, o) ∨ (p ∈ φ ∧ p.1 ≠ d) := by
  rcases List.mem_cons.mp hp with h | h
  · exact .inl h
  · obtain ⟨h1, h2⟩ := List.mem_filter.mp h
    exact .inr ⟨h1, of_decide_eq_true h2⟩
theorem newsPut {h₀ h h' : Heap} {L d : Addr} {o₀ o : Obj} {φ : Led} (N : News h₀ L h φ) (hm : (d, o₀) ∈ φ) (hs : Heap.SameBut d h h') (ho : h'.get? d = some o) : News h₀ L h' (put d o φ) := by
  intro p hp
  rcases put_inv hp with rfl | ⟨h1, h2⟩
  · exact ⟨ho, (N _ hm).2.1, (N _ hm).2.2⟩
  · exact ⟨(hs.2 _ h2).trans (N p h1).1, (N p h1).2⟩
theorem uniq {h₀ h : Heap} {L a : Addr} {o o' : Obj} {φ : Led} (N : News h₀ L h φ) (h1 : (a, o) ∈ φ) (h2 : (a, o') ∈ φ) : o = o' := by
  have e1 := (N _ h1).1
  have e2 := (N _ h2).1
  exact Option.some.inj (e1.symm.trans e2)
theorem apart {h₀ h : Heap} {L a b : Addr} {o o' : Obj} {φ : Led} (N : News h₀ L h φ) (h1 : (a, o) ∈ φ) (h2 : (b, o') ∈ φ) (hc : o.cls ≠ o'.cls) : a ≠ b := by
  rintro rfl
  exact hc (congrArg Obj.cls (uniq N h1 h2))
theorem newsSub {h₀ h : Heap} {L : Addr} {φ ψ : Led} (N : News h₀ L h φ) (hs : ∀ p ∈ ψ, p ∈ φ) : News h₀ L h ψ := fun p hp => N p (hs p hp)

/-- what stands in φ away from fp stands in ψ -/
def Keep (φ : Led) (fp : List Addr) (ψ : Led) : Prop := ∀ p ∈ φ, p.1 ∉ fp → p ∈ ψ
theorem Keep.refl (φ : Led) (fp : List Addr) : Keep φ fp φ := fun _ hp _ => hp
theorem Keep.trans {φ ψ χ : Led} {fp : List Addr} (h1 : Keep φ fp ψ) (h2 : Keep ψ fp χ) : Keep φ fp χ := fun p hp hn => h2 p (h1 p hp hn) hn
theorem Keep.sub {φ ψ : Led} (h : Keep φ [] ψ) : ∀ p ∈ φ, p ∈ ψ := fun p hp => h p hp (fun h => nomatch h)
theorem Keep.of {φ ψ : Led} {fp : List Addr} (h : ∀ p ∈ φ, p ∈ ψ) : Keep φ fp ψ := fun p hp _ => h p hp
theorem Keep.cons {φ ψ : Led} {fp : List Addr} {q : Addr × Obj} (h : Keep φ fp ψ) : Keep φ fp (q :: ψ) := fun p hp hn => List.Mem.tail _ (h p hp hn)
theorem Keep.put {φ ψ : Led} {fp : List Addr} {d : Addr} {o : Obj} (h : Keep φ fp ψ) (hd : ∀ p ∈ φ, p.1 ∉ fp → p.1 ≠ d) : Keep φ fp (put d o ψ) := fun p hp hn => put_of (h p hp hn) (hd p hp hn)

theorem fr_ext {h₀ h : Heap} {L : Addr} {m m' : Str → Option Value} (F : Fr h₀ L h m) (e : ∀ y, m' y = m y) : Fr h₀ L h m' := by
  have e' : m' = m := funext e
  rw [e']; exact F
theorem ite_same {m : Str → Option Value} {x y : Str} {v : Value} {r : Option Value} (h : m x = some v) (k : r = m y) : (if y = x then some v else r) = m y := by
  by_cases q : y = x
  · rw [if_pos q, q, h]
  · rw [if_neg q, k]
theorem fr_put1 {h₀ h : Heap} {L : Addr} {m : Str → Option Value} {x1 : Str} {v1 : Value} (h1 : m x1 = some v1) (F : Fr h₀ L h m) : Fr h₀ L h (fun y => if y = x1 then some v1 else m y) := fr_ext F fun _ => (ite_same h1 rfl)
theorem fr_put2 {h₀ h : Heap} {L : Addr} {m : Str → Option Value} {x1 x2 : Str} {v1 v2 : Value} (h1 : m x1 = some v1) (h2 : m x2 = some v2) (F : Fr h₀ L h m) : Fr h₀ L h (fun y => if y = x1 then some v1 else if y = x2 then some v2 else m y) := fr_ext F fun _ => (ite_same h1 (ite_same h2 rfl))
theorem fr_put3 {h₀ h : Heap} {L : Addr} {m : Str → Option Value} {x1 x2 x3 : Str} {v1 v2 v3 : Value} (h1 : m x1 = some v1) (h2 : m x2 = some v2) (h3 : m x3 = some v3) (F : Fr h₀ L h m) : Fr h₀ L h (fun y => if y = x1 then some v1 else if y = x2 then some v2 else if y = x3 then some v3 else m y) := fr_ext F fun _ => (ite_same h1 (ite_same h2 (ite_same h3 rfl)))
theorem fr_put4 {h₀ h : Heap} {L : Addr} {m : Str → Option Value} {x1 x2 x3 x4 : Str} {v1 v2 v3 v4 : Value} (h1 : m x1 = some v1) (h2 : m x2 = some v2) (h3 : m x3 = some v3) (h4 : m x4 = some v4) (F : Fr h₀ L h m) : Fr h₀ L h (fun y => if y = x1 then some v1 else if y = x2 then some v2 else if y = x3 then some v3 else if y = x4 then some v4 else m y) := fr_ext F fun _ => (ite_same h1 (ite_same h2 (ite_same h3 (ite_same h4 rfl))))
theorem fr_put5 {h₀ h : Heap} {L : Addr} {m : Str → Option Value} {x1 x2 x3 x4 x5 : Str} {v1 v2 v3 v4 v5 : Value} (h1 : m x1 = some v1) (h2 : m x2 = some v2) (h3 : m x3 = some v3) (h4 : m x4 = some v4) (h5 : m x5 = some v5) (F : Fr h₀ L h m) : Fr h₀ L h (fun y => if y = x1 then some v1 else if y = x2 then some v2 else if y = x3 then some v3 else if y = x4 then some v4 else if y = x5 then some v5 else m y) := fr_ext F fun _ => (ite_same h1 (ite_same h2 (ite_same h3 (ite_same h4 (ite_same h5 rfl)))))
theorem fr_put6 {h₀ h : Heap} {L : Addr} {m : Str → Option Value} {x1 x2 x3 x4 x5 x6 : Str} {v1 v2 v3 v4 v5 v6 : Value} (h1 : m x1 = some v1) (h2 : m x2 = some v2) (h3 : m x3 = some v3) (h4 : m x4 = some v4) (h5 : m x5 = some v5) (h6 : m x6 = some v6) (F : Fr h₀ L h m) : Fr h₀ L h (fun y => if y = x1 then some v1 else if y = x2 then some v2 else if y = x3 then some v3 else if y = x4 then some v4 else if y = x5 then some v5 else if y = x6 then some v6 else m y) := fr_ext F fun _ => (ite_same h1 (ite_same h2 (ite_same h3 (ite_same h4 (ite_same h5 (ite_same h6 rfl))))))
theorem fr_put7 {h₀ h : Heap} {L : Addr} {m : Str → Option Value} {x1 x2 x3 x4 x5 x6 x7 : Str} {v1 v2 v3 v4 v5 v6 v7 : Value} (h1 : m x1 = some v1) (h2 : m x2 = some v2) (h3 : m x3 = some v3) (h4 : m x4 = some v4) (h5 : m x5 = some v5) (h6 : m x6 = some v6) (h7 : m x7 = some v7) (F : Fr h₀ L h m) : Fr h₀ L h (fun y => if y = x1 then some v1 else if y = x2 then some v2 else if y = x3 then some v3 else if y = x4 then some v4 else if y = x5 then some v5 else if y = x6 then some v6 else if y = x7 then some v7 else m y) := fr_ext F fun _ => (ite_same h1 (ite_same h2 (ite_same h3 (ite_same h4 (ite_same h5 (ite_same h6 (ite_same h7 rfl)))))))
theorem fr_put8 {h₀ h : Heap} {L : Addr} {m : Str → Option Value} {x1 x2 x3 x4 x5 x6 x7 x8 : Str} {v1 v2 v3 v4 v5 v6 v7 v8 : Value} (h1 : m x1 = some v1) (h2 : m x2 = some v2) (h3 : m x3 = some v3) (h4 : m x4 = some v4) (h5 : m x5 = some v5) (h6 : m x6 = some v6) (h7 : m x7 = some v7) (h8 : m x8 = some v8) (F : Fr h₀ L h m) : Fr h₀ L h (fun y => if y = x1 then some v1 else if y = x2 then some v2 else if y = x3 then some v3 else if y = x4 then some v4 else if y = x5 then some v5 else if y = x6 then some v6 else if y = x7 then some v7 else if y = x8 then some v8 else m y) := fr_ext F fun _ => (ite_same h1 (ite_same h2 (ite_same h3 (ite_same h4 (ite_same h5 (ite_same h6 (ite_same h7 (ite_same h8 rfl))))))))
theorem fr_put9 {h₀ h : Heap} {L : Addr} {m : Str → Option Value} {x1 x2 x3 x4 x5 x6 x7 x8 x9 : Str} {v1 v2 v3 v4 v5 v6 v7 v8 v9 : Value} (h1 : m x1 = some v1) (h2 : m x2 = some v2) (h3 : m x3 = some v3) (h4 : m x4 = some v4) (h5 : m x5 = some v5) (h6 : m x6 = some v6) (h7 : m x7 = some v7) (h8 : m x8 = some v8) (h9 : m x9 = some v9) (F : Fr h₀ L h m) : Fr h₀ L h (fun y => if y = x1 then some v1 else if y = x2 then some v2 else if y = x3 then some v3 else if y = x4 then some v4 else if y = x5 then some v5 else if y = x6 then some v6 else if y = x7 then some v7 else if y = x8 then some v8 else if y = x9 then some v9 else m y) := fr_ext F fun _ => (ite_same h1 (ite_same h2 (ite_same h3 (ite_same h4 (ite_same h5 (ite_same h6 (ite_same h7 (ite_same h8 (ite_same h9 rfl)))))))))
theorem fr_put10 {h₀ h : Heap} {L : Addr} {m : Str → Option Value} {x1 x2 x3 x4 x5 x6 x7 x8 x9 x10 : Str} {v1 v2 v3 v4 v5 v6 v7 v8 v9 v10 : Value} (h1 : m x1 = some v1) (h2 : m x2 = some v2) (h3 : m x3 = some v3) (h4 : m x4 = some v4) (h5 : m x5 = some v5) (h6 : m x6 = some v6) (h7 : m x7 = some v7) (h8 : m x8 = some v8) (h9 : m x9 = some v9) (h10 : m x10 = some v10) (F : Fr h₀ L h m) : Fr h₀ L h (fun y => if y = x1 then some v1 else if y = x2 then some v2 else if y = x3 then some v3 else if y = x4 then some v4 else if y = x5 then some v5 else if y = x6 then some v6 else if y = x7 then some v7 else if y = x8 then some v8 else if y = x9 then some v9 else if y = x10 then some v10 else m y) := fr_ext F fun _ => (ite_same h1 (ite_same h2 (ite_same h3 (ite_same h4 (ite_same h5 (ite_same h6 (ite_same h7 (ite_same h8 (ite_same h9 (ite_same h10 rfl))))))))))
theorem fr_put11 {h₀ h : Heap} {L : Addr} {m : Str → Option Value} {x1 x2 x3 x4 x5 x6 x7 x8 x9 x10 x11 : Str} {v1 v2 v3 v4 v5 v6 v7 v8 v9 v10 v11 : Value} (h1 : m x1 = some v1) (h2 : m x2 = some v2) (h3 : m x3 = some v3) (h4 : m x4 = some v4) (h5 : m x5 = some v5) (h6 : m x6 = some v6) (h7 : m x7 = some v7) (h8 : m x8 = some v8) (h9 : m x9 = some v9) (h10 : m x10 = some v10) (h11 : m x11 = some v11) (F : Fr h₀ L h m) : Fr h₀ L h (fun y => if y = x1 then some v1 else if y = x2 then some v2 else if y = x3 then some v3 else if y = x4 then some v4 else if y = x5 then some v5 else if y = x6 then some v6 else if y = x7 then some v7 else if y = x8 then some v8 else if y = x9 then some v9 else if y = x10 then some v10 else if y = x11 then some v11 else m y) := fr_ext F fun _ => (ite_same h1 (ite_same h2 (ite_same h3 (ite_same h4 (ite_same h5 (ite_same h6 (ite_same h7 (ite_same h8 (ite_same h9 (ite_same h10 (ite_same h11 rfl)))))))))))
theorem fr_put12 {h₀ h : Heap} {L : Addr} {m : Str → Option Value} {x1 x2 x3 x4 x5 x6 x7 x8 x9 x10 x11 x12 : Str} {v1 v2 v3 v4 v5 v6 v7 v8 v9 v10 v11 v12 : Value} (h1 : m x1 = some v1) (h2 : m x2 = some v2) (h3 : m x3 = some v3) (h4 : m x4 = some v4) (h5 : m x5 = some v5) (h6 : m x6 = some v6) (h7 : m x7 = some v7) (h8 : m x8 = some v8) (h9 : m x9 = some v9) (h10 : m x10 = some v10) (h11 : m x11 = some v11) (h12 : m x12 = some v12) (F : Fr h₀ L h m) : Fr h₀ L h (fun y => if y = x1 then some v1 else if y = x2 then some v2 else if y = x3 then some v3 else if y = x4 then some v4 else if y = x5 then some v5 else if y = x6 then some v6 else if y = x7 then some v7 else if y = x8 then some v8 else if y = x9 then some v9 else if y = x10 then some v10 else if y = x11 then some v11 else if y = x12 then some v12 else m y) := fr_ext F fun _ => (ite_same h1 (ite_same h2 (ite_same h3 (ite_same h4 (ite_same h5 (ite_same h6 (ite_same h7 (ite_same h8 (ite_same h9 (ite_same h10 (ite_same h11 (ite_same h12 rfl))))))))))))

def good (o : Obj) : Bool := (match o.cls with
  | .ref _ => true
  | .type t => t == "list" || t == "tuple" || t == "dict"
  | _ => false) || (match o.data with
  | .cell _ => true
  | _ => false)
theorem good_cell {o : Obj} {v : Option Value} (h : o.data = .cell v) : good o = true := by unfold good; rw [h]; simp

section
variable {prog : Program} {w : World} {A : Around} {E : Value → Shared → Prop} {s : Shared} {env : Env} {h₀ : Heap}

/-- the end of a turn: the iterator stands, the word holds one further -/
def TurnEnd (h₀ : Heap) (L : Addr) (I : Addr) (Io : Obj) (Rn : (Str → Option Value) → Led → Prop) (s : Shared) (Q : Flow → Shared → Prop) (f : Flow) (s₃ : Shared) : Prop :=
  match f with
  | .ret v => Q (.ret v) s₃
  | .brk => Q .next s₃
  | _ => ∃ h' tk' m' ψ', s₃ = { s with heap := h', toks := tk' } ∧ Fr h₀ L h' m' ∧ News h₀ L h' ψ' ∧ (I, Io) ∈ ψ' ∧ Rn m' ψ'

theorem loop_walk {R' : Result → Shared → Prop} {Q : Flow → Shared → Prop} {tgt : Expr} {body : List Stmt} {I : Addr} {fp : List Addr} {n : Nat} {P : Nat → Value → Prop} {St : Nat → Heap → Prop} {m : Str → Option Value} {φ : Led}
    (R : Nat → (Str → Option Value) → Led → Prop)
    (W : Walks prog w A I fp [I] n P St) (hfp : ∀ b ∈ fp, b = I ∨ ∃ o, ∀ i m ψ, R i m ψ → (b, o) ∈ ψ) (hit : ∀ i h, St i h → ∃ o, h.get? I = some o ∧ good o = false)
    (hI : h₀.get? I = none) (hIL : I ≠ env.locals) (hφ : ∀ p ∈ φ, p.1 ≠ I) (hst : St 0 s.heap) (F : Fr h₀ env.locals s.heap m) (N : News h₀ env.locals s.heap φ) (h0 : R 0 m φ)
    (hmono : ∀ i m ψ ψ', (∀ p ∈ ψ, (good p.2 = true ∨ p ∈ φ) → p ∈ ψ') → R i m ψ → R i m ψ')
    (turn : ∀ i v m₁ ψ Io h tk, i < n → P i v → R i m₁ ψ → (∀ p ∈ ψ, p.1 ≠ I) → Fr h₀ env.locals h m₁ → News h₀ env.locals h ((I, Io) :: ψ) →
      wpAny (model prog w) A (assign tgt env v) (fun _ s₂ => wpAny (model prog w) A (execs body env) (TurnEnd h₀ env.locals I Io (R (i + 1)) { s with heap := h, toks := tk } Q) (fun _ _ => False) s₂) (fun _ _ => False) { s with heap := h, toks := tk })
    (done : ∀ m₁ ψ h tk, R n m₁ ψ → Fr h₀ env.locals h m₁ → News h₀ env.locals h ψ → Q .next { s with heap := h, toks := tk })
    (hQ : ∀ f s', Q f s' → R' (.ok f) s') (hgo : ∀ i v (s : Shared) (Q : Unit → Shared → Prop) (E : Value → Shared → Prop), P i v → St (i + 1) s.heap → Q () s → wpAny (model prog w) A (letOwnedTupleGo tgt (.ref I) v) Q E s) :
    codeAny (model prog w) A (.forLoop tgt (.ref I) body [] env) R' s := by
  refine codeAny_forLoop_any
    (fun k s' => ∃ h' tk m' ψ i, s' = { s with heap := h', toks := tk } ∧ St i h' ∧ Fr h₀ env.locals h' m' ∧ News h₀ env.locals h' ψ ∧ (∀ p ∈ ψ, p.1 ≠ I) ∧ R i m' ψ ∧ i ≤ n ∧ k = n + 1 - i) ?_ (n + 1)
    ⟨s.heap, s.toks, m, φ, 0, rfl, hst, F, N, hφ, h0, Nat.zero_le _, rfl⟩
  rintro k s' ⟨h', tk, m', ψ, i, rfl, hst', F', N', hψ, hR, hi, rfl⟩
  have next : ∀ h₁ : Heap, (∀ b o, b ∉ [I] → h'.get? b = some o → h₁.get? b = some o) → Fr h₀ env.locals h₁ m' ∧ News h₀ env.locals h₁ ψ := fun h₁ hk₁ => by
    refine ⟨⟨F'.ns.at' fun o e => hk₁ _ o (fun h => hIL ((List.mem_singleton.mp h).symm)) e, fun b o e => hk₁ b o (fun h => ?_) (F'.keep b o e), F'.above⟩, fun p hp => ⟨hk₁ _ _ (fun h => hψ p hp (List.mem_singleton.mp h)) (N' p hp).1, (N' p hp).2⟩⟩
    rw [List.mem_singleton.mp h, hI] at e
    cases e
  by_cases hlt : i < n
  · refine W.item i _ _ _ hlt hst' fun v h₁ tk₁ hP hst₁ hk₁ => ?_
    obtain ⟨F₁, N₁⟩ := next h₁ hk₁
    obtain ⟨Io, hIo, hg⟩ := hit _ _ hst₁
    have N₂ : News h₀ env.locals h₁ ((I, Io) :: ψ) := fun p hp => by
      rcases List.mem_cons.mp hp with rfl | hp
      · exact ⟨hIo, hIL, hI⟩
      · exact N₁ p hp
    refine hgo i v _ _ _ hP hst₁ ?_
    refine wpAny_noRaise ?_
    refine wpAny_mono (turn i v m' ψ Io h₁ tk₁ hlt hP hR hψ F₁ N₂) (fun _ s₂ h₂ => ?_) fun _ _ e => e
    refine wpAny_mono h₂ (fun f s₃ h₃ => ?_) fun _ _ e => e.elim
    have fin : (∃ h' tk' m' ψ', s₃ = { ({ s with heap := h₁, toks := tk₁ } : Shared) with heap := h', toks := tk' } ∧ Fr h₀ env.locals h' m' ∧ News h₀ env.locals h' ψ' ∧ (I, Io) ∈ ψ' ∧ R (i + 1) m' ψ') →
        ∃ m, m < n + 1 - i ∧ ∃ h' tk m' ψ i, s₃ = { s with heap := h', toks := tk } ∧ St i h' ∧ Fr h₀ env.locals h' m' ∧ News h₀ env.locals h' ψ ∧ (∀ p ∈ ψ, p.1 ≠ I) ∧ R i m' ψ ∧ i ≤ n ∧ m = n + 1 - i := by
      rintro ⟨h₄, tk₄, m₄, ψ₄, rfl, F₄, N₄, hm₄, hR₄⟩
      refine ⟨n + 1 - (i + 1), by omega, h₄, tk₄, m₄, ψ₄.filter (fun p => decide (p.1 ≠ I)), i + 1, rfl, ?_, F₄, newsSub N₄ (fun p hp => (List.mem_filter.mp hp).1), fun p hp => of_decide_eq_true (List.mem_filter.mp hp).2, ?_, hlt, rfl⟩
      · refine W.frame _ _ _ hst₁ fun b hb o e => ?_
        rcases hfp b hb with rfl | ⟨o', ho'⟩
        · rw [hIo] at e
          cases e
          exact (N₄ _ hm₄).1
        · have e1 := (N₁ _ (ho' _ _ _ hR)).1
          have e2 := (N₄ _ (ho' _ _ _ hR₄)).1
          have : o = o' := Option.some.inj (e.symm.trans e1)
          rw [this]; exact e2
      · refine hmono _ _ _ _ (fun p hp hg' => List.mem_filter.mpr ⟨hp, decide_eq_true ?_⟩) hR₄
        intro hpI
        rcases hg' with hg' | hg'
        · have : p.2 = Io := uniq N₄ (a := I) (by rw [← hpI]; exact hp) hm₄
          rw [this, hg] at hg'
          cases hg'
        · exact hφ p hg' hpI
    cases f with
    | ret v => exact hQ _ _ h₃
    | brk => exact hQ _ _ h₃
    | cont => exact fin h₃
    | next => exact fin h₃
  · have hin : i = n := by omega
    subst hin
    refine W.done _ _ _ hst' fun h₁ tk₁ hk₁ => wpAny_execs_nil ?_
    obtain ⟨F₁, N₁⟩ := next h₁ hk₁
    exact hQ _ _ (done m' ψ h₁ tk₁ hR F₁ N₁)

theorem fresh_of {L : Addr} {m : Str → Option Value} {φ : Led} (F : Fr h₀ L s.heap m) (N : News h₀ L s.heap φ) : h₀.get? s.heap.objs.size = none ∧ s.heap.objs.size ≠ L ∧ ∀ p ∈ φ, p.1 ≠ s.heap.objs.size := by
  refine ⟨?_, Nat.ne_of_gt F.ns.lt, fun p hp => Nat.ne_of_lt (Heap.lt_size (N p hp).1)⟩
  cases hq : h₀.get? s.heap.objs.size with
  | none => rfl
  | some o' => exact absurd (Heap.lt_size (F.keep _ _ hq)) (Nat.lt_irrefl _)

abbrev ForBack (prog : Program) (w : World) (A : Around) (env : Env) (Q : Flow → Shared → Prop) (E : Value → Shared → Prop) : Result → Shared → Prop :=
  fun r s' => match r with | .ok f => Q f s' | .error e => cameBackBy (model prog w) A env E e s'

/-- a for over a list of the ledger -/
theorem iter_list {Q : Flow → Shared → Prop} {tgt : Expr} {body : List Stmt} {l : Addr} {vs : List Value} {c : Nat} {m : Str → Option Value} {φ : Led}
    (R : Nat → (Str → Option Value) → Led → Prop) (hh : A.handled = none) (F : Fr h₀ env.locals s.heap m) (N : News h₀ env.locals s.heap φ) (h0 : R 0 m φ)
    (hmono : ∀ i m ψ ψ', (∀ p ∈ ψ, (good p.2 = true ∨ p ∈ φ) → p ∈ ψ') → R i m ψ → R i m ψ')
    (hl : ∀ i m ψ, R i m ψ → (l, listOf vs.toArray c) ∈ ψ)
    (turn : ∀ i v m₁ ψ I Io h tk, vs[i]? = some v → R i m₁ ψ → (∀ p ∈ φ, p.1 ≠ I) → (∀ p ∈ ψ, p.1 ≠ I) → Fr h₀ env.locals h m₁ → News h₀ env.locals h ((I, Io) :: ψ) →
      wpAny (model prog w) A (assign tgt env v) (fun _ s₂ => wpAny (model prog w) A (execs body env) (TurnEnd h₀ env.locals I Io (R (i + 1)) { s with heap := h, toks := tk } Q) (fun _ _ => False) s₂) (fun _ _ => False) { s with heap := h, toks := tk })
    (done : ∀ m₁ ψ h tk, R vs.length m₁ ψ → Fr h₀ env.locals h m₁ → News h₀ env.locals h ψ → Q .next { s with heap := h, toks := tk })
    (hgo : ∀ I i v (s : Shared) (Q : Unit → Shared → Prop) (E : Value → Shared → Prop), vs[i]? = some v → s.heap.IsListIter I l (i + 1) → Q () s → wpAny (model prog w) A (letOwnedTupleGo tgt (.ref I) v) Q E s) :
    wpAny (model prog w) A (pyIter (.ref l)) (fun it s₂ => codeAny (model prog w) A (.forLoop tgt it body [] env) (fun r s' => match r with | .ok f => Q f s' | .error e => cameBackBy (model prog w) A env E e s') s₂) E s := by
  have hlm := hl _ _ _ h0
  have hls : s.heap.IsList l vs.toArray := ⟨_, (N _ hlm).1, rfl, _, rfl⟩
  obtain ⟨f1, f2, f3⟩ := fresh_of F N
  have hne : l ≠ s.heap.objs.size := f3 _ hlm
  refine wpAny_pyIter_list hls ?_
  have W := Walks.list (prog := prog) (w := w) hh s.heap.objs.size l hne vs.toArray
  refine loop_walk (h₀ := h₀) (Q := Q) R W ?_ ?_ f1 f2 f3 ⟨⟨_, Heap.get?_push_size _ rfl, rfl, rfl⟩, hls.push _⟩ (F.push _) (fun p hp => ⟨Heap.get?_push_of_some _ (N p hp).1, (N p hp).2⟩) h0 hmono ?_ ?_ (fun _ _ x => x) (fun i v s Q E hP st hq => hgo _ i v s Q E (by simpa using hP) st.1 hq)
  · intro b hb
    rcases List.mem_cons.mp hb with rfl | hb
    · exact .inl rfl
    · rw [List.mem_singleton.mp hb]
      exact .inr ⟨_, hl⟩
  · rintro i h ⟨⟨o, ho, hc, hd⟩, _⟩
    exact ⟨o, ho, by unfold good; rw [hc, hd]; rfl⟩
  · intro i v m₁ ψ Io h tk hlt hP hR hψ F₁ N₁
    exact turn i v m₁ ψ _ Io h tk (by simpa using hP) hR f3 hψ F₁ N₁
  · intro m₁ ψ h tk hR F₁ N₁
    exact done m₁ ψ h tk (by simpa using hR) F₁ N₁
theorem go_name {x : Str} {pos : Pos} {it v : Value} {Q : Unit → Shared → Prop} (h : Q () s) : wpAny (model prog w) A (letOwnedTupleGo (.Name x pos) it v) Q E s := wpAny_pure h
end

theorem off_Rules : True := by w_top off; exact trivial
/-- a def's contract: for any caller -/
def Spec (f : Addr) (args : List Value) (need : Nat) (φ : Led) (Post : Value → Led → Prop) : Prop :=
  ∀ (prog : Program) (w : World) (p : Program) (loose : List Str) (mean : ExcName → Option Value) (mg mb : Str → Option Value) (dp un : Nat) (gd : Option (List Code)) (cn : Str) (cs : Scope) (a : Addr) (ccd : Value) (cl : List (Str × Addr)) (outer : List Env) (A₀ : Around) (base h₀ : Heap) (L : Addr) (m : Str → Option Value) (s : Shared)
    (Q E : Value → Shared → Prop),
    Below A₀ base outer h₀ → Fr h₀ L s.heap m → (Mine.hd.heap_39 w.params).In h₀ → News h₀ L s.heap φ → Top p loose mean mg mb h₀ → cs.kind = .function → dp + need < 600 → un + 100 * need < 9000 →
    (∀ r h' tk φ', Fr h₀ L h' m → News h₀ L h' φ' → Post r φ' → Q r { s with heap := h', toks := tk }) →
    wpAny (model prog w) (ktrTop dp un gd cn cs L a ccd cl outer) (call (.ref f) args) Q E s

theorem Spec.use {f : Addr} {args : List Value} {need : Nat} {φ : Led} {Post : Value → Led → Prop} (sp : Spec f args need φ Post) {prog : Program} {w : World} {p : Program} {loose : List Str} {mean : ExcName → Option Value} {mg mb : Str → Option Value} {dp un : Nat} {gd : Option (List Code)} {cn : Str} {cs : Scope} {a : Addr} {ccd : Value} {cl : List (Str × Addr)} {outer : List Env} {A₀ : Around} {base h₀ : Heap} {L : Addr} {m : Str → Option Value} {s : Shared}
    {Q E : Value → Shared → Prop} (B : Below A₀ base outer h₀) (F : Fr h₀ L s.heap m) (X : (Mine.hd.heap_39 w.params).In h₀) (N : News h₀ L s.heap φ) (T : Top p loose mean mg mb h₀) (hk : cs.kind = .function) (hd : dp + need < 600) (hu : un + 100 * need < 9000)
    (h : ∀ r h' tk φ', Fr h₀ L h' m → News h₀ L h' φ' → Post r φ' → Q r { s with heap := h', toks := tk }) :
    wpAny (model prog w) (ktrTop dp un gd cn cs L a ccd cl outer) (call (.ref f) args) Q E s := sp _ _ _ _ _ _ _ _ _ _ _ _ _ _ _ _ _ _ _ _ _ _ _ _ B F X N T hk hd hu h

/-- a body's end -/
def BodyEnd (g : Heap) (L : Addr) (Post : Value → Led → Prop) (s : Shared) (fl : Flow) (s' : Shared) : Prop :=
  ∃ h' tk m' φ', s' = { s with heap := h', toks := tk } ∧ Fr g L h' m' ∧ News g L h' φ' ∧ Post (match fl with | .ret v => v | _ => .none) φ'
theorem BodyEnd.ret {g : Heap} {L : Addr} {Post : Value → Led → Prop} {s : Shared} {v : Value} {h' : Heap} {tk : Nat} {m' : Str → Option Value} {φ' : Led} (F : Fr g L h' m') (N : News g L h' φ') (hp : Post v φ') : BodyEnd g L Post s (.ret v) { s with heap := h', toks := tk } := ⟨h', tk, m', φ', rfl, F, N, hp⟩
theorem BodyEnd.next {g : Heap} {L : Addr} {Post : Value → Led → Prop} {s : Shared} {h' : Heap} {tk : Nat} {m' : Str → Option Value} {φ' : Led} (F : Fr g L h' m') (N : News g L h' φ') (hp : Post .none φ') : BodyEnd g L Post s .next { s with heap := h', toks := tk } := ⟨h', tk, m', φ', rfl, F, N, hp⟩

theorem enter {f : Addr} {args : List Value} {need : Nat} {φ : Led} {Post : Value → Led → Prop} {name qual : Str} {params : Arguments} {body : List Stmt} {scope : Scope} {dV kV doc pm cdv ct oc : Value} {an od : Option Addr} {osl : Array (Option Value)} {binds : List (Str × Value)}
    (ho : ∀ w : World, (Mine.hd.heap_39 w.params).lookup f = some ⟨oc, od, .func (fnOf name qual params body scope dV kV doc pm an cdv ct), osl⟩) (hcd : ∀ w : World, codeIn (Mine.hd.heap_39 w.params) cdv qual = true)
    (hbind : bindArgs (fnOf name qual params body scope dV kV doc pm an cdv ct) ⟨args, []⟩ = pure binds) (hloc : ∀ y ∈ binds, scope.names.lookup y.1 = some .local)
    (hco : scope.isCoroutine = false) (hgen : scope.isGenerator = false) (hk : scope.kind = .function) (hcell : ∀ x ∈ scope.names, x.2 ≠ .cell)
    (h : ∀ {prog : Program} {w : World} {p : Program} {loose : List Str} {mean : ExcName → Option Value} {mg mb : Str → Option Value} {dp un : Nat} {gd : Option (List Code)} {outer : List Env} {A₀ : Around} {base g : Heap} {L : Addr} {s : Shared},
      Below A₀ base outer g → Fr g L s.heap (fun y => binds.reverse.lookup y) → (Mine.hd.heap_39 w.params).In g → News g L s.heap φ → Top p loose mean mg mb g → dp + need < 601 → un + 100 * need < 9003 →
      wpAny (model prog w) (ktrTop dp un gd qual scope L f cdv [] outer) (execs body (envOf qual scope L f cdv)) (BodyEnd g L Post s) (fun _ _ => False) s) :
    Spec f args need φ Post := by
  intro prog w p loose mean mg mb dp un gd cn cs a ccd cl outer A₀ base h₀ L m s Q E B F X N T hk' hdp hun hret
  refine wpAny_call ?_
  refine code_def B F X N T rfl rfl hk' (ho w) (hcd w) ?_ (BindsTo.of_eq hbind) hloc ?_ hco hgen hk hcell
  · show dp < recursionLimit
    unfold recursionLimit; omega
  · intro g L' h₁ FG F' N' B' X' T'
    refine wpAny_noRaise ?_
    refine wpAny_mono (h (dp := dp + 1) (un := un + 3) (gd := gd) (outer := envX cn cs L a ccd cl :: outer) (s := { s with heap := h₁, toks := s.toks + binds.length }) B' F' X' N' T' (by omega) (by omega)) (fun fl s' he => ?_) fun _ _ x => x
    obtain ⟨h', tk, m', φ', rfl, F₂, N₂, hp⟩ := he
    exact leaveK_ F₂ N₂ fun F₃ N₃ => hret _ _ _ _ F₃ N₃ hp

section
variable {prog : Program} {w : World} {A : Around} {E : Value → Shared → Prop} {s : Shared} {name : Str} {scope : Scope} {L a : Addr} {cd : Value} {h₀ : Heap} {m : Str → Option Value} {φ : Led}
theorem assign3 {x y z : Str} {p1 p2 p3 pos : Pos} {k : Nat} {t : Addr} {v1 v2 v3 : Value} {n : Nat} {Q : Unit → Shared → Prop} (F : Fr h₀ L s.heap m) (N : News h₀ L s.heap φ) (ht : (t, ({ cls := .type "tuple", data := .seq [v1, v2, v3].toArray n } : Obj)) ∈ φ) (hh : A.handled = none)
    (h : ∀ h' tk, Fr h₀ L h' (fun q => if q = z then some v3 else if q = y then some v2 else if q = x then some v1 else m q) → News h₀ L h' φ → Q () { s with heap := h', toks := tk })
    (hk : scope.kind = .function := by rfl) (h1 : (envOf name scope L a cd).kindOf x = some .local := by rfl) (h2 : (envOf name scope L a cd).kindOf y = some .local := by rfl) (h3 : (envOf name scope L a cd).kindOf z = some .local := by rfl) :
    wpAny (model prog w) A (assign (.Tuple [.Name x p1, .Name y p2, .Name z p3] k pos) (envOf name scope L a cd) (.ref t)) Q E s := by
  refine unpackN_ F N (items := [v1, v2, v3].toArray) ⟨_, (N _ ht).1, rfl, n, rfl⟩ hh rfl rfl fun h' F' N' => ?_
  refine assignInOrder_cons (wpAny_assign_Name (stN F' N' (fun h₁ F₁ N₁ => ?_) hk h1))
  refine assignInOrder_cons (wpAny_assign_Name (stN F₁ N₁ (fun h₂ F₂ N₂ => ?_) hk h2))
  refine assignInOrder_cons (wpAny_assign_Name (stN F₂ N₂ (fun h₃ F₃ N₃ => ?_) hk h3))
  exact assignInOrder_nil (h _ _ F₃ N₃)
end

theorem toPut {h₀ h : Heap} {L d : Addr} {o : Obj} {φ : Led} (N : News h₀ L h φ) (hm : (d, o) ∈ φ) : News h₀ L h (put d o φ) := newsSub N fun p hp => by
  rcases put_inv hp with rfl | ⟨h1, _⟩
  · exact hm
  · exact h1
theorem updPut {d : Addr} {o o' : Obj} {φ : Led} : Upd d o o' (put d o φ) (put d o' φ) := Upd.head fun _ hp => of_decide_eq_true (List.mem_filter.mp hp).2
section
variable {prog : Program} {w : World} {A : Around} {E : Value → Shared → Prop} {s : Shared} {L d : Addr} {h₀ : Heap} {m : Str → Option Value} {φ : Led}
theorem append_led {us : List Value} {k : Nat} {v : Value} {Q : Value → Shared → Prop} (F : Fr h₀ L s.heap m) (N : News h₀ L s.heap φ) (hm : (d, listOf us.toArray k) ∈ φ) (hz : us.length ≤ 16777216)
    (h : ∀ h', Fr h₀ L h' m → News h₀ L h' (put d (listOf (us ++ [v]).toArray (k + 1)) φ) → Q .none { s with heap := h' }) : wpAny (model prog w) A (call (.builtin "list.append") [.ref d, v]) Q E s := by
  refine append_K F (toPut N hm) updPut (fun h' F' N' => h h' F' ?_) (by rw [List.size_toArray, sizeLine_eq]; exact hz)
  simpa using N'
end

abbrev tupOf (its : List Value) (n : Nat) : Obj := { cls := .type "tuple", data := .seq its.toArray n }
/-- the pieces at their tuples -/
inductive Pcs (φ : Led) : List Value → List (Int × Int × Int) → Prop where
  | nil : Pcs φ [] []
  | cons {a : Addr} {b f c : Int} {t1 t2 t3 : Tok} {n : Nat} {vs : List Value} {ps : List (Int × Int × Int)} : (a, tupOf [.int b t1, .int f t2, .int c t3] n) ∈ φ → Pcs φ vs ps → Pcs φ (.ref a :: vs) ((b, f, c) :: ps)
theorem Pcs.mono {φ ψ : Led} {vs : List Value} {ps : List (Int × Int × Int)} (h : Pcs φ vs ps) (hs : ∀ p ∈ φ, good p.2 = true → p ∈ ψ) : Pcs ψ vs ps := by
  induction h with
  | nil => exact .nil
  | cons hm _ ih => exact .cons (hs _ hm rfl) ih
theorem Pcs.length {φ : Led} {vs : List Value} {ps : List (Int × Int × Int)} (h : Pcs φ vs ps) : vs.length = ps.length := by
  induction h with
  | nil => rfl
  | cons _ _ ih => rw [List.length_cons, List.length_cons, ih]
theorem Pcs.get {φ : Led} {vs : List Value} {ps : List (Int × Int × Int)} (h : Pcs φ vs ps) {i : Nat} {v : Value} (hi : vs[i]? = some v) :
    ∃ a b f c t1 t2 t3 n, v = .ref a ∧ ps[i]? = some (b, f, c) ∧ (a, tupOf [.int b t1, .int f t2, .int c t3] n) ∈ φ := by
  induction h generalizing i with
  | nil => cases hi
  | cons hm _ ih =>
    cases i with
    | zero => cases hi; exact ⟨_, _, _, _, _, _, _, _, rfl, rfl, hm⟩
    | succ i => exact ih hi
theorem Pcs.snoc {φ : Led} {vs : List Value} {ps : List (Int × Int × Int)} {a : Addr} {b f c : Int} {t1 t2 t3 : Tok} {n : Nat} (h : Pcs φ vs ps) (hm : (a, tupOf [.int b t1, .int f t2, .int c t3] n) ∈ φ) : Pcs φ (vs ++ [.ref a]) (ps ++ [(b, f, c)]) := by
  induction h with
  | nil => exact .cons hm .nil
  | cons h1 _ ih => exact .cons h1 ih

theorem go_pcs {prog : Program} {w : World} {A : Around} {φ : Led} {vs : List Value} {ps : List (Int × Int × Int)} {l : Addr} {elts : List Expr} {k : Nat} {pos : Pos} (hP : Pcs φ vs ps) :
    ∀ I i v (s : Shared) (Q : Unit → Shared → Prop) (E : Value → Shared → Prop), vs[i]? = some v → s.heap.IsListIter I l (i + 1) → Q () s → wpAny (model prog w) A (letOwnedTupleGo (.Tuple elts k pos) (.ref I) v) Q E s := by
  intro I i v s Q E hv hit hq
  obtain ⟨a, _, _, _, _, _, _, _, rfl, _, _⟩ := hP.get hv
  exact wpAny_letOwnedTupleGo_listiter hit hq

theorem fill {P : Prop} (h : PySem.Challenge.rw_on0209_01 = PySem.Challenge.rw_on0209_01 → Mine.hd.heap_39 = Mine.hd.heap_39 → P) : P := h rfl rfl
theorem foldl_take {α β : Type} (g : β → α → β) (b : β) {xs : List α} {i : Nat} {x : α} (h : xs[i]? = some x) : (xs.take (i + 1)).foldl g b = g ((xs.take i).foldl g b) x := by
  rw [List.take_add_one, h]; simp
theorem mem_hd {a : Addr × Obj} {l : Led} : a ∈ a :: l := List.Mem.head _
theorem mem_tl {a b : Addr × Obj} {l : Led} (h : a ∈ l) : a ∈ b :: l := List.Mem.tail _ h
theorem allLt_mem {d : Addr} : ∀ {l : Led}, AllLt d l → ∀ p ∈ l, p.1 < d
  | [], _, _, hp => nomatch hp
  | _ :: _, h, _, hp => (List.mem_cons.mp hp).elim (fun e => e ▸ h.1) fun hp => allLt_mem h.2 _ hp
theorem put_mono {d : Addr} {o : Obj} {φ ψ : Led} {p : Addr × Obj} (hs : ∀ p ∈ φ, p ∈ ψ) (hp : p ∈ put d o φ) : p ∈ put d o ψ := by
  rcases put_inv hp with rfl | ⟨h1, h2⟩
  · exact put_self _ _ _
  · exact put_of (hs _ h1) h2
def Uniq (φ : Led) : Prop := ∀ a o o', (a, o) ∈ φ → (a, o') ∈ φ → o = o'
theorem uniq_of {h₀ h : Heap} {L : Addr} {φ : Led} (N : News h₀ L h φ) : Uniq φ := fun _ _ _ h1 h2 => uniq N h1 h2
theorem Uniq.sub {φ ψ : Led} (U : Uniq φ) (hs : ∀ p ∈ ψ, p ∈ φ) : Uniq ψ := fun a o o' h1 h2 => U a o o' (hs _ h1) (hs _ h2)
theorem Pcs.sub {φ ψ : Led} {vs : List Value} {ps : List (Int × Int × Int)} (h : Pcs φ vs ps) (hs : ∀ p ∈ φ, p ∈ ψ) : Pcs ψ vs ps := h.mono fun p hp _ => hs p hp
theorem Pcs.put {φ : Led} {vs : List Value} {ps : List (Int × Int × Int)} {d : Addr} {its : Array Value} {k : Nat} {o : Obj} (h : Pcs φ vs ps) (U : Uniq φ) (hd : (d, listOf its k) ∈ φ) : Pcs (put d o φ) vs ps := by
  induction h with
  | nil => exact .nil
  | cons hm _ ih =>
    refine .cons (put_of hm ?_) ih
    rintro rfl
    have := congrArg Obj.cls (U _ _ _ hm hd)
    simp at this
section
variable {prog : Program} {w : World} {A : Around} {E : Value → Shared → Prop} {s : Shared} {L d : Addr} {h₀ : Heap} {m : Str → Option Value} {φ : Led}
theorem isList_led {us : Array Value} {k : Nat} {h : Heap} (N : News h₀ L h φ) (hm : (d, listOf us k) ∈ φ) : h.IsList d us := ⟨_, (N _ hm).1, rfl, _, rfl⟩
theorem len_led {us : List Value} {k : Nat} {Q : Value → Shared → Prop} (N : News h₀ L s.heap φ) (hm : (d, listOf us.toArray k) ∈ φ) (hz : us.length ≤ 16777216)
    (h : ∀ t tk, Q (.int us.length t) { s with toks := tk }) : wpAny (model prog w) A (call (.builtin "len") [.ref d]) Q E s := by
  refine len_list (isList_led N hm) (by simp; omega) ?_
  have := h (s.toks + 1) (s.toks + 1 + 1)
  simpa using this
theorem join_led {us : List Value} {ys : List Str} {k : Nat} {t : Tok} {Q : Value → Shared → Prop} (N : News h₀ L s.heap φ) (hm : (d, listOf us.toArray k) ∈ φ) (hS : StrsAre us ys) (hz : (ys.map (·.length)).sum ≤ 16777216)
    (h : ∀ t tk, Q (.str (Txt.join (Str.ofString "") ys) t) { s with toks := tk }) : wpAny (model prog w) A (call (.builtin "str.join") [.str (Str.ofString "") t, .ref d]) Q E s :=
  join_list (isList_led N hm) (by simpa using hS) (by rw [show (Str.ofString "").length = 0 by decide +kernel, Nat.mul_zero]; exact hz) h
theorem set_led {us : List Value} {k : Nat} {i : Int} {t : Tok} {v : Value} {Q : Unit → Shared → Prop} (F : Fr h₀ L s.heap m) (N : News h₀ L s.heap φ) (hm : (d, listOf us.toArray k) ∈ φ) (h0 : 0 ≤ i) (hi : i < us.length) (hz : us.length ≤ 16777216)
    (h : ∀ h', Fr h₀ L h' m → News h₀ L h' (put d (listOf (us.set i.toNat v).toArray k) φ) → Q () { s with heap := h' }) : wpAny (model prog w) A (setItem (.ref d) (.int i t) v) Q E s := by
  refine ki_setAt (N _ hm).1 h0 (by omega) (by simpa using hi) (h _ (F.change (Heap.SameBut.update ..) (N _ hm).2.1 (N _ hm).2.2) (newsPut N hm (Heap.SameBut.update ..) ?_))
  have q := PySem.IsL.update (N _ hm).1 (·.setIfInBounds i.toNat v)
  simpa using q
theorem setLast_led {us : List Value} {x : Value} {k : Nat} {t : Tok} {v : Value} {Q : Unit → Shared → Prop} (F : Fr h₀ L s.heap m) (N : News h₀ L s.heap φ) (hm : (d, listOf (us ++ [x]).toArray k) ∈ φ) (hz : us.length ≤ 10000000)
    (h : ∀ h', Fr h₀ L h' m → News h₀ L h' (put d (listOf (us ++ [v]).toArray k) φ) → Q () { s with heap := h' }) : wpAny (model prog w) A (setItem (.ref d) (.int (-1) t) v) Q E s := by
  refine ki_setBack (N _ hm).1 (by decide) (by simp; omega) (by decide) (h _ (F.change (Heap.SameBut.update ..) (N _ hm).2.1 (N _ hm).2.2) (newsPut N hm (Heap.SameBut.update ..) ?_))
  have q := PySem.IsL.update (N _ hm).1 (·.setIfInBounds (-1 + ((us ++ [x]).toArray.size : Int)).toNat v)
  have e : (-1 + ((us ++ [x]).toArray.size : Int)).toNat = us.length := by simp; omega
  rw [e] at q ⊢
  simpa using q
theorem sub_led {value slice : PySem.Expr} {us : List Value} {k : Nat} {i : Int} {t : Tok} {v : Value} {Q : Value → Shared → Prop} (N : News h₀ L s.heap φ) (hm : (d, listOf us.toArray k) ∈ φ) (h0 : 0 ≤ i) (hx : us[i.toNat]? = some v) (hz : us.length ≤ 16777216) (h : Q v s)
    (hs : subscripted slice false (.ref d) (.int i t) = operate [.ref d, .int i t] (getItem (.ref d) (.int i t)) := by with_unfolding_all rfl) : wpAny (model prog w) A (subscriptTail value slice (.ref d) (.int i t)) Q E s := by
  have hl := isList_led N hm
  have hi : i.toNat < us.length := by
    rcases Nat.lt_or_ge i.toNat us.length with h | h
    · exact h
    · rw [List.getElem?_eq_none h] at hx; cases hx
  exact tail_any hl.typeIs slot_list_getitem.lookup (wpAny_getItem_list hl h0 (by omega) (by simpa using hx) h) hs
theorem subLast_led {value slice : PySem.Expr} {us : List Value} {k : Nat} {t : Tok} {v : Value} {Q : Value → Shared → Prop} (N : News h₀ L s.heap φ) (hm : (d, listOf (us ++ [v]).toArray k) ∈ φ) (hz : us.length ≤ 10000000) (h : Q v s)
    (hs : subscripted slice false (.ref d) (.int (-1) t) = operate [.ref d, .int (-1) t] (getItem (.ref d) (.int (-1) t)) := by with_unfolding_all rfl) : wpAny (model prog w) A (subscriptTail value slice (.ref d) (.int (-1) t)) Q E s := by
  have hl := isList_led N hm
  refine tail_any hl.typeIs slot_list_getitem.lookup (wpAny_getItem_list_neg hl (by decide) (by simp; omega) (by decide) ?_ h) hs
  have e : (-1 + ((us ++ [v]).toArray.size : Int)).toNat = us.length := by simp; omega
  rw [e]; simp
theorem pop_led {us : List Value} {k : Nat} {v : Value} {Q : Value → Shared → Prop} (F : Fr h₀ L s.heap m) (N : News h₀ L s.heap φ) (hm : (d, listOf (us ++ [v]).toArray k) ∈ φ) (hz : us.length ≤ 10000000)
    (h : ∀ h', Fr h₀ L h' m → News h₀ L h' (put d (listOf us.toArray (k + 1)) φ) → Q v { s with heap := h' }) : wpAny (model prog w) A (call (.builtin "list.pop") [.ref d]) Q E s := by
  refine kl_pop F (toPut N hm) (p := us) (y := v) ?_ updPut ?_ h
  · have e := kpa_last v us
    simpa using e
  · rw [sizeLine_eq]; simp; omega
end
section
variable {prog : Program} {w : World} {A : Around} {E : Value → Shared → Prop} {s : Shared} {L d : Addr} {h₀ : Heap} {m : Str → Option Value} {φ : Led}
theorem reverse_led {us : List Value} {k : Nat} {Q : Value → Shared → Prop} (F : Fr h₀ L s.heap m) (N : News h₀ L s.heap φ) (hm : (d, listOf us.toArray k) ∈ φ) (hz : us.length ≤ 16777216)
    (h : ∀ h', Fr h₀ L h' m → News h₀ L h' (put d (listOf us.reverse.toArray k) φ) → Q .none { s with heap := h' }) : wpAny (model prog w) A (call (.builtin "list.reverse") [.ref d]) Q E s :=
  kl_reverse F (toPut N hm) (l := us.reverse) (by simp) updPut (by rw [sizeLine_eq]; simpa using hz) h
end
theorem Pcs.last {φ : Led} {vs : List Value} {ps : List (Int × Int × Int)} {q : Int × Int × Int} (h : Pcs φ vs (ps ++ [q])) :
    ∃ us a t1 t2 t3 n, vs = us ++ [.ref a] ∧ Pcs φ us ps ∧ (a, tupOf [.int q.1 t1, .int q.2.1 t2, .int q.2.2 t3] n) ∈ φ := by
  induction ps generalizing vs with
  | nil =>
    cases h with
    | cons hm r => cases r; exact ⟨[], _, _, _, _, _, rfl, .nil, hm⟩
  | cons p ps ih =>
    cases h with
    | cons hm r =>
      obtain ⟨us, a, t1, t2, t3, n, rfl, h1, h2⟩ := ih r
      exact ⟨_ :: us, a, t1, t2, t3, n, rfl, .cons hm h1, h2⟩
section
variable {prog : Program} {w : World} {A : Around} {E : Value → Shared → Prop} {s : Shared} {K : Frag} {x C dx L : Addr} {h₀ : Heap} {m : Str → Option Value} {φ : Led} {es es' : List DictEntry} {n n' : Nat} {name : Str} {v : Value}
theorem setattr_led {Q : Unit → Shared → Prop} (F : Fr h₀ L s.heap m) (X₀ : K.In h₀) (N : News h₀ L s.heap φ) (hx : (x, instObj C dx) ∈ φ) (hd : (dx, dictOf es n) ∈ φ)
    (hs : findIn K (.ref C) "__setattr__" = some (some (.builtin "object.__setattr__"))) (hp : plainOver K C = true) (ht : takerIn K C name = some none) (hh : hasDictIn K C = true) (hl : (getL name es).isSome = true)
    (e : (putL name (PyData.keyHash w.params name) (.str name (s.toks + 1)) v es, putN name es n) = (es', n')) (hz : es'.length ≤ 1000)
    (h : ∀ h', Fr h₀ L h' m → News h₀ L h' (put dx (dictOf es' n') φ) → Q () { s with heap := h', toks := s.toks + 2 }) :
    wpAny (model prog w) A (setAttr (.ref x) name v) Q E s :=
  set_dict F X₀ (toPut N hd) (InstAt.of_news N hx hd) rfl hs hp ht hh hl e updPut hz h
end
theorem mem_keep {p : Addr × Obj} {φ ψ : Led} (hm : p ∈ φ) (h : Keep φ [] ψ) : p ∈ ψ := h.sub _ hm
theorem pcs_keep {vs : List Value} {ps : List (Int × Int × Int)} {φ ψ : Led} (hm : Pcs φ vs ps) (h : Keep φ [] ψ) : Pcs ψ vs ps := hm.sub h.sub
theorem pcs_tl {vs : List Value} {ps : List (Int × Int × Int)} {φ : Led} {q : Addr × Obj} (hm : Pcs φ vs ps) : Pcs (q :: φ) vs ps := hm.sub fun _ hp => mem_tl hp

-- steps of the walk for these proofs: the one local line asks my words (k_with) ahead of the library's lines
local macro_rules | `(tactic| walk_at $s:str) => if s.getString.startsWith "my_" then Lean.Macro.throwUnsupported else `(tactic| k_extra $(Lean.Syntax.mkStrLit ("w " ++ s.getString)))
theorem kw_1 : True := by
  (k_with "my_enter" => (refine' enter ?e_k1 ?e_k2 ?e_k3 ?e_k4 ?e_k5 ?e_k6 ?e_k7 ?e_k8 ?_; (case e_k1 => (intro w; k_is)); (case e_k2 => (intro w; k_is)); (case e_k3 => exact rfl); (case e_k4 => exact locs rfl); (case e_k5 => exact rfl); (case e_k6 => exact rfl); (case e_k7 => exact rfl); (case e_k8 => decide)))
  exact trivial
theorem kw_2 : True := by
  (k_with "my_fill" => (refine fill ?_; k_fill; intro hf1 hf2; clear hf1 hf2))
  exact trivial
theorem kw_3 : True := by
  (k_with "my_mem" => first | with_reducible assumption | with_reducible exact mem_hd | (refine' mem_tl ?m_m; (case m_m => walk_at "my_mem")) | (refine' mem_keep ?m_m ?m_h; (case m_h => with_reducible assumption); (case m_m => walk_at "my_mem")))
  exact trivial
local macro_rules | `(tactic| k_mem) => `(tactic| walk_at "my_mem")
theorem kw_4 : True := by
  (k_with "my_pcs" => first | with_reducible assumption | (refine' pcs_keep ?p_m ?p_h; (case p_h => with_reducible assumption); (case p_m => walk_at "my_pcs")) | (refine' pcs_tl ?p_m; (case p_m => walk_at "my_pcs")))
  exact trivial
theorem kw_5 : True := by
  (k_with "w getMethod ref" => ((with_reducible show wpAny _ _ (getMethod (Value.ref _) (PySem.Str.ofString "append") _) _ _ _); (refine' kl_method ?w_N ?w_m PySem.F.slot_list_append PySem.F.type_list_append ?_; (case w_N => k_asm); (case w_m => walk_at "my_mem"))))
  exact trivial
theorem kw_6 : True := by
  (k_with "w call builtin:list.append" => (refine' append_led ?w_F ?w_N ?w_m ?w_z ?_; (case w_F => k_asm); (case w_N => k_asm); (case w_m => walk_at "my_mem"); (case w_z => first | assumption | omega); intro _ _ _; (try k_sweep)))
  exact trivial
theorem kw_7 : True := by
  (k_with "w call builtin:len" => ((with_reducible show wpAny _ _ (call (Value.builtin _) [Value.ref _]) _ _ _); (refine' len_led ?w_N ?w_m ?w_z ?_; (case w_N => k_asm); (case w_m => walk_at "my_mem"); (case w_z => first | assumption | omega); intro _ _)))
  exact trivial
theorem kw_8 : True := by
  (k_with "w subscriptTail" => ((with_reducible show wpAny _ _ (subscriptTail _ _ (Value.ref _) (Value.int (-1) _)) _ _ _); (refine' subLast_led ?w_N ?w_m ?w_z ?_; (case w_N => k_asm); (case w_m => walk_at "my_mem"); (case w_z => first | assumption | omega))))
  exact trivial
theorem kw_9 : True := by
  (k_with "w setItem" => ((with_reducible show wpAny _ _ (setItem (Value.ref _) (Value.int (-1) _) _) _ _ _); (refine' setLast_led ?w_F ?w_N ?w_m ?w_z ?_; (case w_F => k_asm); (case w_N => k_asm); (case w_m => walk_at "my_mem"); (case w_z => first | assumption | omega); intro _ _ _; (try k_sweep))))
  exact trivial
theorem kw_10 : True := by
  (k_with "w setAttr ref" => (k_here; k_dflt (refine' setattr_led ?w_k1 ?w_k2 ?w_k3 ?w_k4 ?w_k5 ?w_k6 ?w_k7 ?w_k8 ?w_k9 ?w_k10 ?w_k11 ?w_k13 ?_; (case w_k1 => k_asm); (case w_k2 => k_asm); (case w_k3 => k_asm); (case w_k4 => walk_at "my_mem"); (case w_k5 => walk_at "my_mem"); (case w_k6 => k_is); (case w_k7 => k_is); (case w_k8 => k_is); (case w_k9 => k_is); (case w_k10 => k_get); (case w_k11 => k_put); (case w_k13 => exact Nat.le_of_ble_eq_true rfl); k_whole; intro _ _ _; (try k_sweep))))
  exact trivial
theorem kw_11 : True := by
  (k_with "w exec Raise" => (exfalso; omega))
  exact trivial
theorem kw_12 : True := by
  (k_with "w subscriptTail" => ((with_reducible show wpAny _ _ (subscriptTail _ _ (Value.ref _) (Value.int _ _)) _ _ _); (refine' sub_led ?w_N ?w_m ?w_a ?w_x ?w_z ?_; (case w_N => k_asm); (case w_m => walk_at "my_mem"); (case w_a => first | assumption | omega); (case w_x => assumption); (case w_z => first | assumption | omega))))
  exact trivial
theorem kw_13 : True := by
  (k_with "my_len" => (rw [PySem.sizeLine_eq]; first | assumption | omega))
  exact trivial
theorem kw_14 : True := by
  (k_with "w subscriptTail Name Slice str ref" => ((with_reducible show wpAny _ _ (subscriptTail _ (Expr.Slice (some _) (some _) none _) _ _) _ _ _); (refine slice_strN_ss (hsz := ?w_hsz) (s := ⟨_, _, _, _, _⟩) (by k_asm) (by k_asm) ?_); (case w_hsz => walk_at "my_len"); intro _ _ _ _ _; (try k_sweep)))
  exact trivial
theorem kw_15 : True := by
  (k_with "w subscriptTail Name Slice str ref" => ((with_reducible show wpAny _ _ (subscriptTail _ (Expr.Slice none (some _) none _) _ _) _ _ _); (refine slice_strN_ns (hsz := ?w_hsz) (s := ⟨_, _, _, _, _⟩) (by k_asm) (by k_asm) ?_); (case w_hsz => walk_at "my_len"); intro _ _ _ _ _; (try k_sweep)))
  exact trivial
theorem kw_16 : True := by
  (k_with "w subscriptTail Name Slice str ref" => ((with_reducible show wpAny _ _ (subscriptTail _ (Expr.Slice (some _) none none _) _ _) _ _ _); (refine slice_strN_sn (hsz := ?w_hsz) (s := ⟨_, _, _, _, _⟩) (by k_asm) (by k_asm) ?_); (case w_hsz => walk_at "my_len"); intro _ _ _ _ _; (try k_sweep)))
  exact trivial
theorem kw_17 : True := by
  (k_with "w call builtin:str.join" => ((with_reducible show wpAny _ _ (call (Value.builtin "str.join") [Value.str _ _, Value.ref _]) _ _ _); (refine' join_led ?w_N ?w_m ?w_S ?w_z ?_; (case w_N => k_asm); (case w_m => walk_at "my_mem"); (case w_S => assumption); (case w_z => first | assumption | omega); intro _ _)))
  exact trivial
theorem kw_18 : True := by
  (k_with "w getMethod ref" => ((with_reducible show wpAny _ _ (getMethod (Value.ref _) (PySem.Str.ofString "pop") _) _ _ _); (refine' kl_method ?w_N ?w_m PySem.F.slot_list_pop PySem.F.type_list_pop ?_; (case w_N => k_asm); (case w_m => walk_at "my_mem"))))
  exact trivial
theorem kw_19 : True := by
  (k_with "w call builtin:list.pop" => (refine' pop_led ?w_F ?w_N ?w_m ?w_z ?_; (case w_F => k_asm); (case w_N => k_asm); (case w_m => walk_at "my_mem"); (case w_z => first | assumption | omega); intro _ _ _; (try k_sweep)))
  exact trivial
theorem kw_20 : True := by
  (k_with "w setItem" => ((with_reducible show wpAny _ _ (setItem (Value.ref _) (Value.int _ _) _) _ _ _); (refine' set_led ?w_F ?w_N ?w_m ?w_a ?w_b ?w_z ?_; (case w_F => k_asm); (case w_N => k_asm); (case w_m => walk_at "my_mem"); (case w_a => omega); (case w_b => omega); (case w_z => omega); intro _ _ _; (try k_sweep))))
  exact trivial
theorem kw_21 : True := by
  (k_with "my_go" => repeat' ((fail_if_success (with_reducible show wpAny _ _ (exec (Stmt.While _ _ _ _) _) _ _ _)); first | (refine wpAny_For ?_) | walk1))
  exact trivial
theorem kw_22 : True := by
  (k_with "my_om" => first | omega | (dsimp only; simp only [List.length_append, List.length_take, List.length_drop]; omega))
  exact trivial
theorem kw_23 : True := by
  (k_with "my_ints" => first | with_reducible assumption | assumption | exact IntsAre.nil | exact IntsAre.cons _ _ IntsAre.nil)
  exact trivial
theorem kw_24 : True := by
  (k_with "my_units" => ((have hcL9 := cLine_is); (dsimp only); omega))
  exact trivial
theorem kw_25 : True := by
  (k_with "w compareOp NotEq ref ref" => ((with_reducible show wpAny _ _ (compareOp CmpOp.NotEq (Value.ref _) (Value.ref _)) _ _ _); (refine' ne_intsK (isList_led ?w_N1 ?w_m1) ?w_k2 (isList_led ?w_N2 ?w_m2) ?w_k4 ?w_k5 ?_; (case w_N1 => k_asm); (case w_N2 => k_asm); (case w_m1 => walk_at "my_mem"); (case w_m2 => walk_at "my_mem"); (case w_k2 => walk_at "my_ints"); (case w_k4 => walk_at "my_ints"); (case w_k5 => walk_at "my_units"))))
  exact trivial
theorem kw_26 : True := by
  (k_with "w getMethod ref" => ((with_reducible show wpAny _ _ (getMethod (Value.ref _) (PySem.Str.ofString "reverse") _) _ _ _); (refine' kl_method ?w_N ?w_m PySem.F.slot_list_reverse PySem.F.type_list_reverse ?_; (case w_N => k_asm); (case w_m => walk_at "my_mem"))))
  exact trivial
theorem kw_27 : True := by
  (k_with "w call builtin:list.reverse" => (refine' reverse_led ?w_F ?w_N ?w_m ?w_z ?_; (case w_F => k_asm); (case w_N => k_asm); (case w_m => walk_at "my_mem"); (case w_z => first | assumption | omega); intro _ _ _; (try k_sweep)))
  exact trivial
theorem kw_28 : True := by
  (k_with "my_slice" => ((with_reducible show wpAny _ _ (subscriptTail _ (PySem.Expr.Slice _ _ none _) (Value.ref _) (Value.ref _)) _ _ _); k_dflt (refine' kmk_slice_ints ?s_F ?s_N ?s_l ?s_p ?s_q ?s_i ?s_m ?s_c ?_ ?s_s ?s_t ?s_z; (case s_F => k_asm); (case s_N => k_asm); (case s_l => first | with_reducible exact Fr.lst (by with_reducible assumption) (by with_reducible assumption) | with_reducible exact isList_led (by with_reducible assumption) (by walk_at "my_mem")); (case s_p => kmk_part); (case s_q => kmk_part); (case s_i => assumption); (case s_m => exact kmk_upto (by assumption) (by decide)); (case s_c => exact rfl); (case s_s => with_unfolding_all rfl); (case s_t => kmk_pure); (case s_z => (rw [List.size_toArray, sizeLine_eq]; omega))); intro _ _ _ _ _ _ _ _ _; (obtain _ := IntsAre.length (by assumption)); (try k_sweep)))
  exact trivial
theorem kw_29 : True := by
  (k_with "w subscriptTail" => walk_at "my_slice")
  exact trivial
theorem kw_30 : True := by
  (k_with "w subscriptTail Name Slice ref ref" => walk_at "my_slice")
  exact trivial
theorem kw_31 : True := by
  (k_with "my_mem" => first | with_reducible assumption | with_reducible exact mem_hd | with_reducible exact put_self _ _ _ | (refine' mem_tl ?m_m; (case m_m => walk_at "my_mem")) | (refine' put_of ?m_m ?m_n; (case m_n => first | assumption | (apply Ne.symm; assumption)); (case m_m => walk_at "my_mem")) | (refine' mem_keep ?m_m ?m_h; (case m_h => with_reducible assumption); (case m_m => walk_at "my_mem")))
  exact trivial

theorem off_PureA : True := by w_top off; exact trivial
abbrev tx (y : Str) : List Nat := y.cps.toList
theorem tx_len (y : Str) : (tx y).length = y.length := by simp [tx, Str.length]
theorem tx_inj {x y : Str} (h : tx x = tx y) : x = y := by
  cases x; cases y
  simp only [tx] at h
  rw [Array.toList_inj.mp h]
theorem tx_append (x y : Str) : tx (x ++ y) = tx x ++ tx y := by
  show (x.cps ++ y.cps).toList = _
  simp
theorem slice_ss {x : Str} {i j : Int} (h0 : 0 ≤ i) (h1 : i ≤ j) (h2 : j ≤ x.length) : tx (Txt.slice x (some i) (some j)) = ((tx x).drop i.toNat).take (j - i).toNat := by
  have h := beq_iff_eq.mp (slice_closesL h0 h1 h2)
  rw [h]
theorem slice_ns {x : Str} {j : Int} (h0 : 0 ≤ j) (h2 : j ≤ x.length) : tx (Txt.slice x none (some j)) = (tx x).take j.toNat := by
  have h := beq_iff_eq.mp (slice_closes_toL h0 h2)
  rw [h]; simp
theorem slice_sn {x : Str} {i : Int} (h0 : 0 ≤ i) (h2 : i ≤ x.length) : tx (Txt.slice x (some i) none) = (tx x).drop i.toNat := by
  rw [slice_from_eq h0 h2 rfl]
  show List.take _ _ = _
  refine List.take_of_length_le ?_
  rw [List.length_drop]
  have := tx_len x
  simp only [tx] at this
  omega
section
open PySem.Builtin PySem.Builtin.Str
theorem indices_hi {n : Nat} {i j : Int} (h : (n : Int) ≤ j) : strSliceIndices (some i) (some j) 1 n = strSliceIndices (some i) (some (n : Int)) 1 n := by
  have h0 : ¬ j < 0 := by omega
  have h1 : ¬ ((n : Int) < 0) := by omega
  have h2 : (1 : Int) > 0 := by decide
  simp only [strSliceIndices, h0, h1, h2, if_false, if_true, Int.min_eq_right h, Int.min_self]
/-- any end at or behind the begin -/
theorem slice_any {x : Str} {i j : Int} (h0 : 0 ≤ i) (h1 : i ≤ j) (h2 : i ≤ x.length) : tx (Txt.slice x (some i) (some j)) = ((tx x).drop i.toNat).take (j - i).toNat := by
  by_cases h : j ≤ x.length
  · exact slice_ss h0 h1 h
  · have e : Txt.slice x (some i) (some j) = Txt.slice x (some i) (some (x.length : Int)) := by
      unfold Txt.slice
      rw [indices_hi (by omega)]
    rw [e, slice_ss h0 h2 (Int.le_refl _)]
    have := tx_len x
    rw [List.take_of_length_le, List.take_of_length_le] <;> rw [List.length_drop] <;> omega
theorem tx_strjoin : ∀ ys : List Str, tx (Str.join (Str.ofString "") ys) = (ys.map tx).flatten
  | [] => rfl
  | [x] => by simp [Str.join]
  | x :: y :: r => by
    have h := tx_strjoin (y :: r)
    show tx (x ++ Str.ofString "" ++ Str.join (Str.ofString "") (y :: r)) = _
    rw [tx_append, tx_append, h, show tx (Str.ofString "") = [] by decide +kernel]
    simp
theorem tx_join (ys : List Str) : tx (Txt.join (Str.ofString "") ys) = (ys.map tx).flatten := by
  show tx (glued _ _) = _
  rw [StrLaws.glued_eq_join, tx_strjoin]
end

theorem off_Length : True := by w_top off; exact trivial
def lenP (ps : List (Int × Int × Int)) : Int := (ps.map fun p => p.2.2).sum
theorem lenP_take {ps : List (Int × Int × Int)} {i : Nat} {b f c : Int} (h : ps[i]? = some (b, f, c)) : lenP (ps.take (i + 1)) = lenP (ps.take i) + c := by
  unfold lenP
  rw [List.take_add_one, h]; simp

set_option maxHeartbeats 4000000 in
theorem length_spec {φ : Led} {x dx bl pl al fl : Addr} {t1 t2 t3 t4 : Tok} {g1 g2 g3 g4 : Int} {vs : List Value} {n : Nat} {ps : List (Int × Int × Int)}
    (hx : (x, instObj 134 dx) ∈ φ) (hd : (dx, dictOf [⟨g1, .str (Str.ofString "buffers") t1, .ref bl⟩, ⟨g2, .str (Str.ofString "pieces") t2, .ref pl⟩, ⟨g3, .str (Str.ofString "past") t3, .ref al⟩, ⟨g4, .str (Str.ofString "future") t4, .ref fl⟩] 4) ∈ φ)
    (hp : (pl, listOf vs.toArray n) ∈ φ) (hP : Pcs φ vs ps) :
    Spec 68 [.ref x] 1 φ (fun r ψ => (∃ t, r = .int (lenP ps) t) ∧ Keep φ [] ψ) := by
  walk_at "my_fill"
  walk_at "my_enter"
  intro prog w p loose mean mg mb dp un gd outer A₀ base g L s B F X N T hdp hun
  k_fold
  iterate 5 walk1
  refine wpAny_For ?_
  iterate 3 walk1
  rename Fr _ _ _ _ => F₁
  rename News _ _ _ _ => N₁
  refine iter_list (c := n) (fun i m ψ => (∃ t, m (Str.ofString "total") = some (.int (lenP (ps.take i)) t)) ∧ Keep φ [] ψ) rfl F₁ N₁ ⟨⟨_, rfl⟩, Keep.refl _ _⟩ ?_ ?_ ?_ ?_ (go_pcs hP)
  · rintro i m ψ ψ' hs ⟨h1, h2⟩
    exact ⟨h1, fun p hp hn => hs p (h2 p hp hn) (.inr hp)⟩
  · rintro i m ψ ⟨h1, h2⟩
    exact h2.sub _ hp
  · rintro i v m₁ ψ I Io h tk hv ⟨⟨t, h1⟩, h2⟩ hI hI' F₂ N₂
    obtain ⟨ta, b, f, c, u1, u2, u3, k, rfl, hps, hm⟩ := hP.get hv
    refine assign3 (fr_put1 h1 F₂) N₂ (List.Mem.tail _ (h2.sub _ hm)) rfl fun h₃ tk₃ F₃ N₃ => ?_
    k_fold
    repeat' walk1
    refine ⟨_, _, _, _, rfl, by assumption, by assumption, List.Mem.head _, ?_, h2.cons⟩
    rw [lenP_take hps]; exact ⟨_, rfl⟩
  · rintro m₁ ψ h tk ⟨⟨t, h1⟩, h2⟩ F₂ N₂
    have F₃ := fr_put1 h1 F₂
    repeat' walk1
    dsimp only
    refine BodyEnd.ret F₃ N₂ ⟨⟨t, ?_⟩, h2⟩
    rw [hP.length, List.take_length]

theorem kw_32 : True := by
  (k_with "w call ref" => ((with_reducible show wpAny _ _ (call (Value.ref 68) _) _ _ _); (refine' Spec.use (length_spec ?w_m1 ?w_m2 ?w_m3 ?w_P) ?w_B ?w_F ?w_X ?w_N ?w_T ?w_k ?w_d ?w_u ?_; (case w_B => assumption); (case w_F => k_asm); (case w_X => assumption); (case w_N => k_asm); (case w_T => assumption); (case w_m1 => walk_at "my_mem"); (case w_m2 => walk_at "my_mem"); (case w_m3 => walk_at "my_mem"); (case w_P => walk_at "my_pcs"); (case w_k => exact rfl); (case w_d => omega); (case w_u => omega); intro _ _ _ _ _ _ hr'; obtain ⟨⟨_, e'⟩, _⟩ := hr'; subst e'; (try k_sweep))))
  exact trivial

theorem off_Cut : True := by w_top off; exact trivial
def pyMax (a b : Int) : Int := if b > a then b else a
def pyMin (a b : Int) : Int := if b < a then b else a
def cutStep (begin fin : Int) (st : List (Int × Int × Int) × Int) (p : Int × Int × Int) : List (Int × Int × Int) × Int :=
  (if pyMax (begin - st.2) 0 < pyMin (fin - st.2) p.2.2 then st.1 ++ [(p.1, p.2.1 + pyMax (begin - st.2) 0, pyMin (fin - st.2) p.2.2 - pyMax (begin - st.2) 0)] else st.1, st.2 + p.2.2)
def cutP (ps : List (Int × Int × Int)) (begin fin : Int) : List (Int × Int × Int) := (ps.foldl (cutStep begin fin) ([], 0)).1

theorem cut_len_aux (begin fin : Int) : ∀ (ps : List (Int × Int × Int)) (st : List (Int × Int × Int) × Int), (ps.foldl (cutStep begin fin) st).1.length ≤ st.1.length + ps.length
  | [], _ => Nat.le_refl _
  | p :: ps, st => by
    refine Nat.le_trans (cut_len_aux begin fin ps _) ?_
    unfold cutStep
    dsimp only
    split <;> simp only [List.length_append, List.length_cons, List.length_nil] <;> omega
theorem cut_len {φ : Led} {us : List Value} {ps : List (Int × Int × Int)} {b e : Int} (h : Pcs φ us (cutP ps b e)) : us.length ≤ ps.length := by
  rw [h.length]
  have := cut_len_aux b e ps ([], 0)
  simp only [List.length_nil, Nat.zero_add] at this
  exact this
set_option maxHeartbeats 4000000 in
theorem cut_spec {φ : Led} {pl : Addr} {tb te : Tok} {begin fin : Int} {vs : List Value} {n : Nat} {ps : List (Int × Int × Int)}
    (hp : (pl, listOf vs.toArray n) ∈ φ) (hP : Pcs φ vs ps) (hz : vs.length ≤ 100000) :
    Spec 145 [.ref pl, .int begin tb, .int fin te] 1 φ (fun r ψ => ∃ l us k, r = .ref l ∧ (l, listOf us.toArray k) ∈ ψ ∧ Pcs ψ us (cutP ps begin fin) ∧ Keep φ [] ψ ∧ ∀ p ∈ φ, p.1 ≠ l) := by
  walk_at "my_fill"
  walk_at "my_enter"
  intro prog w p loose mean mg mb dp un gd outer A₀ base g L s B F X N T hdp hun
  k_fold
  repeat' (first | (refine wpAny_For ?_) | walk1)
  rename_i l h2 l1 h1 h' F' N'
  have hfr : ∀ p ∈ φ, p.1 ≠ l := fun p hp => Nat.ne_of_lt (l1 p hp)
  refine iter_list (c := n) (fun i m ψ => (∃ t, m (Str.ofString "place") = some (.int ((ps.take i).foldl (cutStep begin fin) ([], 0)).2 t)) ∧ m (Str.ofString "found") = some (.ref l) ∧ m (Str.ofString "begin") = some (.int begin tb) ∧ m (Str.ofString "end") = some (.int fin te) ∧
    Keep φ [] ψ ∧ ∃ us k, us.length ≤ i ∧ (l, listOf us.toArray k) ∈ ψ ∧ Pcs ψ us ((ps.take i).foldl (cutStep begin fin) ([], 0)).1) rfl F' N' ⟨⟨_, rfl⟩, rfl, rfl, rfl, (Keep.refl _ _).cons, [], 0, Nat.le_refl _, List.Mem.head _, .nil⟩ ?_ ?_ ?_ ?_ (go_pcs hP)
  · rintro i m ψ ψ' hs ⟨h1, h2, h3, h4, h5, us, k, h6, h7, h8⟩
    exact ⟨h1, h2, h3, h4, fun p hp hn => hs p (h5 p hp hn) (.inr (List.Mem.tail _ hp)), us, k, h6, hs _ h7 (.inl rfl), h8.mono fun p hp hg => hs p hp (.inl hg)⟩
  · rintro i m ψ ⟨h1, h2, h3, h4, h5, _⟩
    exact h5.sub _ hp
  · rintro i v m₁ ψ I Io h tk hv ⟨⟨t, h1⟩, h2, h3, h4, h5, us, k, h6, h7, h8⟩ hI hI' F₂ N₂
    obtain ⟨ta, b, f, c, u1, u2, u3, q, rfl, hps, hm⟩ := hP.get hv
    rw [foldl_take _ _ hps]
    have hi : i < vs.length := by
      rcases Nat.lt_or_ge i vs.length with h | h
      · exact h
      · rw [List.getElem?_eq_none h] at hv; cases hv
    generalize ((ps.take i).foldl (cutStep begin fin) ([], 0)) = st at *
    obtain ⟨fo, pc⟩ := st
    dsimp only at h1 h8
    refine assign3 (fr_put4 h1 h2 h3 h4 F₂) N₂ (List.Mem.tail _ (h5.sub _ hm)) rfl fun h₃ tk₃ F₃ N₃ => ?_
    k_fold
    have hu : Uniq ψ := uniq_of (newsSub N₂ fun p hp => mem_tl hp)
    clear h1 h2 h3 h4 F₂ N₂ F' N' hv hps
    repeat' walk1
    · rename_i c1 D' _ l1 _ _ F₄ N₄
      have hlD : l < D' := allLt_mem l1.2 _ h7
      have hlI : l ≠ I := hI _ (List.Mem.head _)
      refine ⟨_, _, _, _, rfl, F₄, N₄, put_of (mem_tl mem_hd) (Ne.symm hlI), ⟨_, rfl⟩, rfl, rfl, rfl, Keep.put h5.cons.cons (fun p hp _ => hfr p hp), _, _, ?_, put_self _ _ _, ?_⟩
      · rw [List.length_append, List.length_singleton]; omega
      · rw [show cutStep begin fin (fo, pc) (b, f, c) = (fo ++ [(b, f + pyMax (begin - pc) 0, pyMin (fin - pc) c - pyMax (begin - pc) 0)], pc + c) from by unfold cutStep; rw [if_pos (by unfold pyMax pyMin; exact c1)]]
        exact ((h8.put hu h7).sub fun p hp => put_mono (fun q hq => mem_tl (mem_tl hq)) hp).snoc (put_of mem_hd (Nat.ne_of_gt hlD))
    · rename_i c1 _ F₄ N₄
      refine ⟨_, _, _, _, rfl, F₄, N₄, List.Mem.head _, ?_, rfl, rfl, rfl, h5.cons, us, k, Nat.le_succ_of_le h6, List.Mem.tail _ h7, ?_⟩
      · exact ⟨_, rfl⟩
      · rw [show cutStep begin fin (fo, pc) (b, f, c) = (fo, pc + c) from by unfold cutStep pyMax pyMin; rw [if_neg c1]]
        exact h8.mono fun p hp _ => List.Mem.tail _ hp
  · rintro m₁ ψ h tk ⟨⟨t, h1⟩, h2, h3, h4, h5, us, k, h6, h7, h8⟩ F₂ N₂
    have F₃ := fr_put1 h2 F₂
    repeat' walk1
    dsimp only
    refine BodyEnd.ret F₃ N₂ ⟨l, us, k, rfl, h7, ?_, h5, hfr⟩
    rw [hP.length, List.take_length] at h8
    exact h8

theorem kw_33 : True := by
  (k_with "w call ref" => ((with_reducible show wpAny _ _ (call (Value.ref 145) _) _ _ _); (refine' Spec.use (cut_spec ?w_m ?w_P ?w_z) ?w_B ?w_F ?w_X ?w_N ?w_T ?w_k ?w_d ?w_u ?_; (case w_B => assumption); (case w_F => k_asm); (case w_X => assumption); (case w_N => k_asm); (case w_T => assumption); (case w_m => walk_at "my_mem"); (case w_P => walk_at "my_pcs"); (case w_z => first | assumption | omega); (case w_k => exact rfl); (case w_d => omega); (case w_u => omega); intro _ _ _ _ _ _ hr'; obtain ⟨_, _, _, e', _, _, _, _⟩ := hr'; subst e'; (obtain _ := cut_len (by assumption)); (try k_sweep))))
  exact trivial

theorem off_Join : True := by w_top off; exact trivial
def joinStep (st : List (Int × Int × Int)) (p : Int × Int × Int) : List (Int × Int × Int) :=
  match st.getLast? with
  | some q => if q.1 = p.1 ∧ q.2.1 + q.2.2 = p.2.1 then st.dropLast ++ [(p.1, q.2.1, q.2.2 + p.2.2)] else st ++ [p]
  | none => st ++ [p]
theorem joinStep_snoc (st : List (Int × Int × Int)) (q p : Int × Int × Int) : joinStep (st ++ [q]) p = if q.1 = p.1 ∧ q.2.1 + q.2.2 = p.2.1 then st ++ [(p.1, q.2.1, q.2.2 + p.2.2)] else (st ++ [q]) ++ [p] := by
  unfold joinStep
  rw [List.getLast?_concat, List.dropLast_concat]
def joinP (ps : List (Int × Int × Int)) : List (Int × Int × Int) := ps.foldl joinStep []

set_option maxHeartbeats 4000000 in
theorem join_spec {φ : Led} {pl : Addr} {vs : List Value} {n : Nat} {ps : List (Int × Int × Int)}
    (hp : (pl, listOf vs.toArray n) ∈ φ) (hP : Pcs φ vs ps) (hz : vs.length ≤ 100000) :
    Spec 152 [.ref pl] 1 φ (fun r ψ => ∃ l us k, r = .ref l ∧ (l, listOf us.toArray k) ∈ ψ ∧ Pcs ψ us (joinP ps) ∧ Keep φ [] ψ ∧ ∀ p ∈ φ, p.1 ≠ l) := by
  walk_at "my_fill"
  walk_at "my_enter"
  intro prog w p loose mean mg mb dp un gd outer A₀ base g L s B F X N T hdp hun
  k_fold
  repeat' (first | (refine wpAny_For ?_) | walk1)
  rename_i l h2 l1 h' F' N'
  have hfr : ∀ p ∈ φ, p.1 ≠ l := fun p hp => Nat.ne_of_lt (l1 p hp)
  refine iter_list (c := n) (fun i m ψ => m (Str.ofString "found") = some (.ref l) ∧
    Keep φ [] ψ ∧ ∃ us k, us.length ≤ i ∧ (l, listOf us.toArray k) ∈ ψ ∧ Pcs ψ us ((ps.take i).foldl joinStep [])) rfl F' N' ⟨rfl, (Keep.refl _ _).cons, [], 0, Nat.le_refl _, List.Mem.head _, .nil⟩ ?_ ?_ ?_ ?_ (go_pcs hP)
  · rintro i m ψ ψ' hs ⟨h2, h5, us, k, h6, h7, h8⟩
    exact ⟨h2, fun p hp hn => hs p (h5 p hp hn) (.inr (List.Mem.tail _ hp)), us, k, h6, hs _ h7 (.inl rfl), h8.mono fun p hp hg => hs p hp (.inl hg)⟩
  · rintro i m ψ ⟨h2, h5, _⟩
    exact h5.sub _ hp
  · rintro i v m₁ ψ I Io h tk hv ⟨h2, h5, us, k, h6, h7, h8⟩ hI hI' F₂ N₂
    obtain ⟨ta, b, f, c, u1, u2, u3, q, rfl, hps, hm⟩ := hP.get hv
    rw [foldl_take _ _ hps]
    have hi : i < vs.length := by
      rcases Nat.lt_or_ge i vs.length with h | h
      · exact h
      · rw [List.getElem?_eq_none h] at hv; cases hv
    have hlI : l ≠ I := hI _ (List.Mem.head _)
    generalize ((ps.take i).foldl joinStep []) = st at *
    refine assign3 (fr_put1 h2 F₂) N₂ (List.Mem.tail _ (h5.sub _ hm)) rfl fun h₃ tk₃ F₃ N₃ => ?_
    k_fold
    have hu : Uniq ψ := uniq_of (newsSub N₂ fun p hp => mem_tl hp)
    clear h2 F₂ N₂ F' N' hv hps
    rcases List.eq_nil_or_concat st with rfl | ⟨st', lq, e⟩
    · cases h8
      repeat' walk1
      rename (_ ∧ AllLt _ _) => l1
      rename Fr _ _ _ _ => F₄
      rename News _ _ _ _ => N₄
      have hlD : l < _ := allLt_mem l1.2 _ h7
      have hl0 := hlD
      refine ⟨_, _, _, _, rfl, F₄, N₄, put_of (mem_tl mem_hd) (Ne.symm hlI), rfl, Keep.put h5.cons.cons (fun p hp _ => hfr p hp), _, _, ?_, put_self _ _ _, ?_⟩
      · rw [List.length_append, List.length_singleton]; omega
      · exact Pcs.snoc .nil (put_of mem_hd (Nat.ne_of_gt hlD))
    · rw [List.concat_eq_append] at e
      subst e
      obtain ⟨us', a', w1, w2, w3, n', rfl, h8', h9⟩ := h8.last
      have hz' : us'.length ≤ 100000 := by rw [List.length_append] at h6; omega
      repeat' walk1
      · rename (_ = b) => q1
        rename (_ = f) => q2
        rename (_ ∧ AllLt _ _) => l1
        rename Fr _ _ _ _ => F₄
        rename News _ _ _ _ => N₄
        have hlD : l < _ := allLt_mem l1.2 _ h7
        refine ⟨_, _, _, _, rfl, F₄, N₄, put_of (mem_tl mem_hd) (Ne.symm hlI), rfl, Keep.put h5.cons.cons (fun p hp _ => hfr p hp), _, _, ?_, put_self _ _ _, ?_⟩
        · simp only [List.length_append, List.length_singleton] at h6 ⊢; omega
        · rw [joinStep_snoc, if_pos ⟨q1, q2⟩]
          exact ((h8'.put hu h7).sub fun p hp => put_mono (fun q hq => mem_tl (mem_tl hq)) hp).snoc (put_of mem_hd (Nat.ne_of_gt hlD))
      · rename (_ ≠ f) => q2
        rename (_ ∧ AllLt _ _) => l1
        rename Fr _ _ _ _ => F₄
        rename News _ _ _ _ => N₄
        have hlD : l < _ := allLt_mem l1.2 _ h7
        refine ⟨_, _, _, _, rfl, F₄, N₄, put_of (mem_tl mem_hd) (Ne.symm hlI), rfl, Keep.put h5.cons.cons (fun p hp _ => hfr p hp), _, _, ?_, put_self _ _ _, ?_⟩
        · simp only [List.length_append, List.length_singleton] at h6 ⊢; omega
        · rw [joinStep_snoc, if_neg fun h => q2 h.2]
          exact ((h8.put hu h7).sub fun p hp => put_mono (fun q hq => mem_tl (mem_tl hq)) hp).snoc (put_of mem_hd (Nat.ne_of_gt hlD))
      · rename (_ ≠ b) => q2
        rename (_ ∧ AllLt _ _) => l1
        rename Fr _ _ _ _ => F₄
        rename News _ _ _ _ => N₄
        have hlD : l < _ := allLt_mem l1.2 _ h7
        refine ⟨_, _, _, _, rfl, F₄, N₄, put_of (mem_tl mem_hd) (Ne.symm hlI), rfl, Keep.put h5.cons.cons (fun p hp _ => hfr p hp), _, _, ?_, put_self _ _ _, ?_⟩
        · simp only [List.length_append, List.length_singleton] at h6 ⊢; omega
        · rw [joinStep_snoc, if_neg fun h => q2 h.1]
          exact ((h8.put hu h7).sub fun p hp => put_mono (fun q hq => mem_tl (mem_tl hq)) hp).snoc (put_of mem_hd (Nat.ne_of_gt hlD))
      · rename (¬ _) => q2
        exfalso
        rw [List.length_append, List.length_singleton] at q2
        omega
  · rintro m₁ ψ h tk ⟨h2, h5, us, k, h6, h7, h8⟩ F₂ N₂
    have F₃ := fr_put1 h2 F₂
    repeat' walk1
    dsimp only
    refine BodyEnd.ret F₃ N₂ ⟨l, us, k, rfl, h7, ?_, h5, hfr⟩
    rw [hP.length, List.take_length] at h8
    exact h8

theorem kw_34 : True := by
  (k_with "w call ref" => ((with_reducible show wpAny _ _ (call (Value.ref 152) _) _ _ _); (refine' Spec.use (join_spec ?w_m ?w_P ?w_z) ?w_B ?w_F ?w_X ?w_N ?w_T ?w_k ?w_d ?w_u ?_; (case w_B => assumption); (case w_F => k_asm); (case w_X => assumption); (case w_N => k_asm); (case w_T => assumption); (case w_m => walk_at "my_mem"); (case w_P => walk_at "my_pcs"); (case w_z => first | assumption | omega); (case w_k => exact rfl); (case w_d => omega); (case w_u => omega); intro _ _ _ _ _ _ hr'; obtain ⟨_, _, _, e', _, _, _, _⟩ := hr'; subst e'; (try k_sweep))))
  exact trivial

theorem off_TextRep : True := by w_top off; exact trivial
structure TA where
  (x dx bl pl al fl : Addr)
  (t1 t2 t3 t4 : Tok)
  (g1 g2 g3 g4 : Int)
  (nb np na nf : Nat)
  (bvs pvs avs fvs : List Value)
structure TState where
  bufs : List Str
  pieces : List (Int × Int × Int)
  past : List (List (Int × Int × Int))
  future : List (List (Int × Int × Int))

def NoTup (φ : Led) (d : Addr) : Prop := ∀ a its k, (a, tupOf its k) ∈ φ → a ≠ d
theorem noTup_of {φ : Led} {d : Addr} {o : Obj} (U : Uniq φ) (hd : (d, o) ∈ φ) (hc : o.cls ≠ .type "tuple") : NoTup φ d := by
  rintro a its k hm rfl
  exact hc (congrArg Obj.cls (U _ _ _ hd hm))
theorem Pcs.off {φ ψ : Led} {vs : List Value} {ps : List (Int × Int × Int)} {d : Addr} (h : Pcs φ vs ps) (hd : NoTup φ d) (hs : ∀ p ∈ φ, p.1 ≠ d → p ∈ ψ) : Pcs ψ vs ps := by
  induction h with
  | nil => exact .nil
  | cons hm _ ih => exact .cons (hs _ hm (hd _ _ _ hm)) ih

inductive PLs (φ : Led) (fp : List Addr) : List Value → List (List (Int × Int × Int)) → Prop where
  | nil : PLs φ fp [] []
  | cons {l : Addr} {vs us : List Value} {n : Nat} {ps : List (Int × Int × Int)} {pss : List (List (Int × Int × Int))} : (l, listOf vs.toArray n) ∈ φ → l ∉ fp → Pcs φ vs ps → PLs φ fp us pss → PLs φ fp (.ref l :: us) (ps :: pss)
theorem PLs.off {φ ψ : Led} {fp fp' : List Addr} {us : List Value} {pss : List (List (Int × Int × Int))} {d : Addr} (h : PLs φ fp us pss) (hd : NoTup φ d) (hl : ∀ l its k, (l, listOf its k) ∈ φ → l ∉ fp → l ≠ d ∧ l ∉ fp') (hs : ∀ p ∈ φ, p.1 ≠ d → p ∈ ψ) : PLs ψ fp' us pss := by
  induction h with
  | nil => exact .nil
  | cons hm hn hP _ ih => exact .cons (hs _ hm (hl _ _ _ hm hn).1) (hl _ _ _ hm hn).2 (hP.off hd hs) ih
theorem PLs.mono {φ ψ : Led} {fp : List Addr} {us : List Value} {pss : List (List (Int × Int × Int))} (h : PLs φ fp us pss) (hs : ∀ p ∈ φ, good p.2 = true → p ∈ ψ) : PLs ψ fp us pss := by
  induction h with
  | nil => exact .nil
  | cons hm hn hP _ ih => exact .cons (hs _ hm rfl) hn (hP.mono hs) ih
theorem PLs.snoc {φ : Led} {fp : List Addr} {us : List Value} {pss : List (List (Int × Int × Int))} {l : Addr} {vs : List Value} {n : Nat} {ps : List (Int × Int × Int)} (h : PLs φ fp us pss) (hm : (l, listOf vs.toArray n) ∈ φ) (hn : l ∉ fp) (hP : Pcs φ vs ps) : PLs φ fp (us ++ [Value.ref l]) (pss ++ [ps]) := by
  induction h with
  | nil => exact .cons hm hn hP .nil
  | cons h1 h2 h3 _ ih => exact .cons h1 h2 h3 ih
theorem PLs.last {φ : Led} {fp : List Addr} {us : List Value} {pss : List (List (Int × Int × Int))} {ps : List (Int × Int × Int)} (h : PLs φ fp us (pss ++ [ps])) :
    ∃ us' l vs n, us = us' ++ [Value.ref l] ∧ PLs φ fp us' pss ∧ (l, listOf vs.toArray n) ∈ φ ∧ l ∉ fp ∧ Pcs φ vs ps := by
  induction pss generalizing us with
  | nil =>
    cases h with
    | cons h1 h2 h3 r => cases r; exact ⟨[], _, _, _, rfl, .nil, h1, h2, h3⟩
  | cons q qs ih =>
    cases h with
    | cons h1 h2 h3 r =>
      obtain ⟨us', l, vs, n, rfl, r1, r2, r3, r4⟩ := ih r
      exact ⟨_ :: us', l, vs, n, rfl, .cons h1 h2 h3 r1, r2, r3, r4⟩
theorem PLs.length {φ : Led} {fp : List Addr} {us : List Value} {pss : List (List (Int × Int × Int))} (h : PLs φ fp us pss) : us.length = pss.length := by
  induction h with
  | nil => rfl
  | cons _ _ _ _ ih => rw [List.length_cons, List.length_cons, ih]

abbrev TA.dict (T : TA) : Obj := dictOf [⟨T.g1, .str (Str.ofString "buffers") T.t1, .ref T.bl⟩, ⟨T.g2, .str (Str.ofString "pieces") T.t2, .ref T.pl⟩, ⟨T.g3, .str (Str.ofString "past") T.t3, .ref T.al⟩, ⟨T.g4, .str (Str.ofString "future") T.t4, .ref T.fl⟩] 4
abbrev TA.own (T : TA) : List Addr := [T.bl, T.al, T.fl]
def TA.fp (T : TA) : List Addr := [T.x, T.dx, T.bl, T.al, T.fl]

structure Tx (φ : Led) (T : TA) (S : TState) : Prop where
  hx : (T.x, instObj 134 T.dx) ∈ φ
  hd : (T.dx, T.dict) ∈ φ
  hb : (T.bl, listOf T.bvs.toArray T.nb) ∈ φ
  hp : (T.pl, listOf T.pvs.toArray T.np) ∈ φ
  ha : (T.al, listOf T.avs.toArray T.na) ∈ φ
  hf : (T.fl, listOf T.fvs.toArray T.nf) ∈ φ
  hB : StrsAre T.bvs S.bufs
  hP : Pcs φ T.pvs S.pieces
  hA : PLs φ T.own T.avs S.past
  hF : PLs φ T.own T.fvs S.future
  d1 : T.bl ≠ T.al
  d2 : T.bl ≠ T.fl
  d3 : T.al ≠ T.fl
  d4 : T.pl ∉ T.own

theorem Tx.mono {φ ψ : Led} {T : TA} {S : TState} (X : Tx φ T S) (hs : ∀ p ∈ φ, good p.2 = true → p ∈ ψ) : Tx ψ T S :=
  ⟨hs _ X.hx rfl, hs _ X.hd rfl, hs _ X.hb rfl, hs _ X.hp rfl, hs _ X.ha rfl, hs _ X.hf rfl, X.hB, X.hP.mono hs, X.hA.mono hs, X.hF.mono hs, X.d1, X.d2, X.d3, X.d4⟩
theorem Tx.sub {φ ψ : Led} {T : TA} {S : TState} (X : Tx φ T S) (hs : ∀ p ∈ φ, p ∈ ψ) : Tx ψ T S := X.mono fun p hp _ => hs p hp
theorem clsNe {φ : Led} {a b : Addr} {o o' : Obj} (U : Uniq φ) (h1 : (a, o) ∈ φ) (h2 : (b, o') ∈ φ) (hc : o.cls ≠ o'.cls) : a ≠ b := by
  rintro rfl
  exact hc (congrArg Obj.cls (U _ _ _ h1 h2))
theorem Tx.fpIn {φ : Led} {T : TA} {S : TState} (X : Tx φ T S) : ∀ b ∈ T.fp, ∃ o, (b, o) ∈ φ := by
  intro b hb
  simp only [TA.fp, List.mem_cons, List.not_mem_nil, or_false] at hb
  rcases hb with rfl | rfl | rfl | rfl | rfl
  · exact ⟨_, X.hx⟩
  · exact ⟨_, X.hd⟩
  · exact ⟨_, X.hb⟩
  · exact ⟨_, X.ha⟩
  · exact ⟨_, X.hf⟩

/-- a list of the text's own has turned -/
theorem Tx.turn {φ : Led} {T : TA} {S : TState} (X : Tx φ T S) (U : Uniq φ) {d : Addr} {o : Obj} (hd : d ∈ T.own) : (T.x, instObj 134 T.dx) ∈ put d o φ ∧ (T.dx, T.dict) ∈ put d o φ ∧ (T.pl, listOf T.pvs.toArray T.np) ∈ put d o φ ∧ Pcs (put d o φ) T.pvs S.pieces ∧ PLs (put d o φ) T.own T.avs S.past ∧ PLs (put d o φ) T.own T.fvs S.future ∧ NoTup φ d := by
  have hm : ∃ us k, (d, listOf us k) ∈ φ := by
    simp only [List.mem_cons, List.not_mem_nil, or_false] at hd
    rcases hd with rfl | rfl | rfl
    · exact ⟨_, _, X.hb⟩
    · exact ⟨_, _, X.ha⟩
    · exact ⟨_, _, X.hf⟩
  obtain ⟨us, k, hm⟩ := hm
  have nt : NoTup φ d := noTup_of U hm (by simp)
  have hs : ∀ p ∈ φ, p.1 ≠ d → p ∈ put d o φ := fun p hp hn => put_of hp hn
  have hl : ∀ l its k, (l, listOf its k) ∈ φ → l ∉ T.own → l ≠ d ∧ l ∉ T.own := fun l its k _ hn => ⟨fun e => hn (e ▸ hd), hn⟩
  exact ⟨hs _ X.hx (clsNe U X.hx hm (by simp)), hs _ X.hd (clsNe U X.hd hm (by simp)), hs _ X.hp (fun e => X.d4 (by have e' : T.pl = d := e; rw [e']; exact hd)), X.hP.off nt hs, X.hA.off nt hl hs, X.hF.off nt hl hs, nt⟩

theorem strsSnoc {vs : List Value} {ys : List Str} {y : Str} {t : Tok} (h : StrsAre vs ys) : StrsAre (vs ++ [Value.str y t]) (ys ++ [y]) := by
  induction h with
  | nil => exact .cons y t .nil
  | cons z u _ ih => exact .cons z u ih
theorem Tx.pushBuf {φ : Led} {T : TA} {S : TState} (X : Tx φ T S) (U : Uniq φ) (y : Str) (t : Tok) :
    Tx (put T.bl (listOf (T.bvs ++ [Value.str y t]).toArray (T.nb + 1)) φ) { T with bvs := T.bvs ++ [Value.str y t], nb := T.nb + 1 } { S with bufs := S.bufs ++ [y] } := by
  obtain ⟨a1, a2, a3, a4, a5, a6, _⟩ := X.turn U (o := listOf (T.bvs ++ [Value.str y t]).toArray (T.nb + 1)) (d := T.bl) (by simp)
  exact ⟨a1, a2, put_self _ _ _, a3, put_of X.ha X.d1.symm, put_of X.hf X.d2.symm, (strsSnoc X.hB), a4, a5, a6, X.d1, X.d2, X.d3, X.d4⟩
theorem Tx.pushPast {φ : Led} {T : TA} {S : TState} (X : Tx φ T S) (U : Uniq φ) {l : Addr} {vs : List Value} {n : Nat} {ps : List (Int × Int × Int)} (hl : (l, listOf vs.toArray n) ∈ φ) (hn : l ∉ T.own) (hP : Pcs φ vs ps) :
    Tx (put T.al (listOf (T.avs ++ [Value.ref l]).toArray (T.na + 1)) φ) { T with avs := T.avs ++ [Value.ref l], na := T.na + 1 } { S with past := S.past ++ [ps] } := by
  obtain ⟨a1, a2, a3, a4, a5, a6, nt⟩ := X.turn U (o := listOf (T.avs ++ [Value.ref l]).toArray (T.na + 1)) (d := T.al) (by simp)
  refine ⟨a1, a2, put_of X.hb X.d1, a3, put_self _ _ _, put_of X.hf X.d3.symm, X.hB, a4, ?_, a6, X.d1, X.d2, X.d3, X.d4⟩
  exact a5.snoc (put_of hl (fun e => hn (by have : l = T.al := e; simp [this]))) hn (hP.off nt fun p hp hn => put_of hp hn)
theorem Tx.pushFuture {φ : Led} {T : TA} {S : TState} (X : Tx φ T S) (U : Uniq φ) {l : Addr} {vs : List Value} {n : Nat} {ps : List (Int × Int × Int)} (hl : (l, listOf vs.toArray n) ∈ φ) (hn : l ∉ T.own) (hP : Pcs φ vs ps) :
    Tx (put T.fl (listOf (T.fvs ++ [Value.ref l]).toArray (T.nf + 1)) φ) { T with fvs := T.fvs ++ [Value.ref l], nf := T.nf + 1 } { S with future := S.future ++ [ps] } := by
  obtain ⟨a1, a2, a3, a4, a5, a6, nt⟩ := X.turn U (o := listOf (T.fvs ++ [Value.ref l]).toArray (T.nf + 1)) (d := T.fl) (by simp)
  refine ⟨a1, a2, put_of X.hb X.d2, a3, put_of X.ha X.d3, put_self _ _ _, X.hB, a4, a5, ?_, X.d1, X.d2, X.d3, X.d4⟩
  exact a6.snoc (put_of hl (fun e => hn (by have : l = T.fl := e; simp [this]))) hn (hP.off nt fun p hp hn => put_of hp hn)
theorem Tx.popPast {φ : Led} {T : TA} {S : TState} (X : Tx φ T S) (U : Uniq φ) {pss : List (List (Int × Int × Int))} {ps : List (Int × Int × Int)} (hS : S.past = pss ++ [ps]) :
    ∃ us l vs n, T.avs = us ++ [Value.ref l] ∧ Tx (put T.al (listOf us.toArray (T.na + 1)) φ) { T with avs := us, na := T.na + 1 } { S with past := pss } ∧ (l, listOf vs.toArray n) ∈ put T.al (listOf us.toArray (T.na + 1)) φ ∧ l ∉ T.own ∧ Pcs (put T.al (listOf us.toArray (T.na + 1)) φ) vs ps := by
  have hA := X.hA
  rw [hS] at hA
  obtain ⟨us, l, vs, n, e, _, r2, r3, r4⟩ := hA.last
  obtain ⟨a1, a2, a3, a4, a5, a6, nt⟩ := X.turn U (o := listOf us.toArray (T.na + 1)) (d := T.al) (by simp)
  rw [hS] at a5
  obtain ⟨us₂, l₂, vs₂, n₂, e₂, s1, s2, s3, s4⟩ := a5.last
  rw [e] at e₂
  obtain ⟨q1, q2⟩ := List.append_inj' e₂ rfl
  subst q1
  simp only [List.cons.injEq, Value.ref.injEq, and_true] at q2
  subst q2
  exact ⟨us, l, vs₂, n₂, e, ⟨a1, a2, put_of X.hb X.d1, a3, put_self _ _ _, put_of X.hf X.d3.symm, X.hB, a4, s1, a6, X.d1, X.d2, X.d3, X.d4⟩, s2, s3, s4⟩
theorem Tx.popFuture {φ : Led} {T : TA} {S : TState} (X : Tx φ T S) (U : Uniq φ) {pss : List (List (Int × Int × Int))} {ps : List (Int × Int × Int)} (hS : S.future = pss ++ [ps]) :
    ∃ us l vs n, T.fvs = us ++ [Value.ref l] ∧ Tx (put T.fl (listOf us.toArray (T.nf + 1)) φ) { T with fvs := us, nf := T.nf + 1 } { S with future := pss } ∧ (l, listOf vs.toArray n) ∈ put T.fl (listOf us.toArray (T.nf + 1)) φ ∧ l ∉ T.own ∧ Pcs (put T.fl (listOf us.toArray (T.nf + 1)) φ) vs ps := by
  have hF := X.hF
  rw [hS] at hF
  obtain ⟨us, l, vs, n, e, _, r2, r3, r4⟩ := hF.last
  obtain ⟨a1, a2, a3, a4, a5, a6, nt⟩ := X.turn U (o := listOf us.toArray (T.nf + 1)) (d := T.fl) (by simp)
  rw [hS] at a6
  obtain ⟨us₂, l₂, vs₂, n₂, e₂, s1, s2, s3, s4⟩ := a6.last
  rw [e] at e₂
  obtain ⟨q1, q2⟩ := List.append_inj' e₂ rfl
  subst q1
  simp only [List.cons.injEq, Value.ref.injEq, and_true] at q2
  subst q2
  exact ⟨us, l, vs₂, n₂, e, ⟨a1, a2, put_of X.hb X.d2, a3, put_of X.ha X.d3, put_self _ _ _, X.hB, a4, a5, s1, X.d1, X.d2, X.d3, X.d4⟩, s2, s3, s4⟩
theorem Tx.setPieces {φ : Led} {T : TA} {S : TState} (X : Tx φ T S) (U : Uniq φ) {l : Addr} {vs : List Value} {n : Nat} {ps : List (Int × Int × Int)} (hl : (l, listOf vs.toArray n) ∈ φ) (hn : l ∉ T.own) (hP : Pcs φ vs ps) :
    Tx (put T.dx ({ T with pl := l, pvs := vs, np := n } : TA).dict φ) { T with pl := l, pvs := vs, np := n } { S with pieces := ps } := by
  have nt : NoTup φ T.dx := noTup_of U X.hd (by simp)
  have hs : ∀ p ∈ φ, p.1 ≠ T.dx → p ∈ put T.dx ({ T with pl := l, pvs := vs, np := n } : TA).dict φ := fun p hp hn => put_of hp hn
  have hll : ∀ l its k, (l, listOf its k) ∈ φ → l ∉ T.own → l ≠ T.dx ∧ l ∉ T.own := fun l its k hm hn => ⟨clsNe U hm X.hd (by simp), hn⟩
  exact ⟨hs _ X.hx (clsNe U X.hx X.hd (by simp)), put_self _ _ _, hs _ X.hb (clsNe U X.hb X.hd (by simp)), hs _ hl (clsNe U hl X.hd (by simp)), hs _ X.ha (clsNe U X.ha X.hd (by simp)), hs _ X.hf (clsNe U X.hf X.hd (by simp)), X.hB, hP.off nt hs, X.hA.off nt hll hs, X.hF.off nt hll hs, X.d1, X.d2, X.d3, hn⟩
/-- the list ahead of it is no list of the ledger's: then it is none of the elder ones -/
theorem PLs.fresh {φ : Led} {a b c l : Addr} {o : Obj} {us : List Value} {pss : List (List (Int × Int × Int))} (h : PLs φ [a, b, c] us pss) (hf : ∀ p ∈ φ, p.1 ≠ l) : PLs ((l, o) :: φ) [a, b, l] us pss := by
  induction h with
  | nil => exact .nil
  | cons hm hn hP _ ih =>
    refine .cons (mem_tl hm) ?_ (hP.sub fun p hp => mem_tl hp) ih
    simp only [List.mem_cons, List.not_mem_nil, or_false, not_or] at hn ⊢
    exact ⟨hn.1, hn.2.1, hf _ hm⟩

theorem Tx.newFuture {φ : Led} {T : TA} {S : TState} {l : Addr} {n : Nat} (X : Tx φ T S) (U : Uniq ((l, listOf #[] n) :: φ)) (hf : ∀ p ∈ φ, p.1 ≠ l) :
    Tx (put T.dx ({ T with fl := l, fvs := [], nf := n } : TA).dict ((l, listOf #[] n) :: φ)) { T with fl := l, fvs := [], nf := n } { S with future := [] } := by
  have X' : Tx ((l, listOf #[] n) :: φ) T S := X.sub fun p hp => mem_tl hp
  have nt : NoTup ((l, listOf #[] n) :: φ) T.dx := noTup_of U X'.hd (by simp)
  have hs : ∀ p ∈ (l, listOf #[] n) :: φ, p.1 ≠ T.dx → p ∈ put T.dx ({ T with fl := l, fvs := [], nf := n } : TA).dict ((l, listOf #[] n) :: φ) := fun p hp hn => put_of hp hn
  have hA : PLs ((l, listOf #[] n) :: φ) [T.bl, T.al, l] T.avs S.past := X.hA.fresh hf
  have hll : ∀ l' its k, (l', listOf its k) ∈ (l, listOf #[] n) :: φ → l' ∉ [T.bl, T.al, l] → l' ≠ T.dx ∧ l' ∉ [T.bl, T.al, l] := fun l its k hm hn => ⟨clsNe U hm X'.hd (by simp), hn⟩
  refine ⟨hs _ X'.hx (clsNe U X'.hx X'.hd (by simp)), put_self _ _ _, hs _ X'.hb (clsNe U X'.hb X'.hd (by simp)), hs _ X'.hp (clsNe U X'.hp X'.hd (by simp)), hs _ X'.ha (clsNe U X'.ha X'.hd (by simp)), hs _ mem_hd (fun e => hf _ X.hd e.symm), X.hB, X'.hP.off nt hs, hA.off nt hll hs, .nil, X.d1, hf _ X.hb, hf _ X.ha, ?_⟩
  have := X.d4
  simp only [List.mem_cons, List.not_mem_nil, or_false, not_or] at this ⊢
  exact ⟨this.1, this.2.1, hf _ X.hp⟩
theorem tx_keep {T : TA} {S : TState} {φ ψ : Led} (hm : Tx φ T S) (h : Keep φ [] ψ) : Tx ψ T S := hm.sub h.sub
theorem tx_tl {T : TA} {S : TState} {φ : Led} {q : Addr × Obj} (hm : Tx φ T S) : Tx (q :: φ) T S := hm.sub fun _ hp => mem_tl hp

theorem kw_35 : True := by
  (k_with "my_tx" => first | with_reducible assumption | (refine' tx_keep ?t_m ?t_h; (case t_h => with_reducible assumption); (case t_m => walk_at "my_tx")) | (refine' tx_tl ?t_m; (case t_m => walk_at "my_tx")))
  exact trivial

theorem off_Change : True := by w_top off; exact trivial
theorem TA.dict_eq (T : TA) : T.dict = dictOf [⟨T.g1, .str (Str.ofString "buffers") T.t1, .ref T.bl⟩, ⟨T.g2, .str (Str.ofString "pieces") T.t2, .ref T.pl⟩, ⟨T.g3, .str (Str.ofString "past") T.t3, .ref T.al⟩, ⟨T.g4, .str (Str.ofString "future") T.t4, .ref T.fl⟩] 4 := rfl
def Frame (φ : Led) (T : TA) (ψ : Led) (T' : TA) : Prop := T'.x = T.x ∧ Keep φ T.fp ψ ∧ ∀ b ∈ T'.fp, b ∈ T.fp ∨ ∀ p ∈ φ, p.1 ≠ b

theorem Uniq.cons {φ : Led} {l : Addr} {o : Obj} (U : Uniq φ) (hf : ∀ p ∈ φ, p.1 ≠ l) : Uniq ((l, o) :: φ) := by
  intro a o₁ o₂ h1 h2
  rcases List.mem_cons.mp h1 with e1 | h1 <;> rcases List.mem_cons.mp h2 with e2 | h2
  · cases e1; cases e2; rfl
  · cases e1; exact absurd rfl (hf _ h2)
  · cases e2; exact absurd rfl (hf _ h1)
  · exact U _ _ _ h1 h2
theorem Pcs.putN {φ : Led} {vs : List Value} {ps : List (Int × Int × Int)} {d : Addr} {o : Obj} (h : Pcs φ vs ps) (hd : NoTup φ d) : Pcs (Mine.put d o φ) vs ps := h.off hd fun _ hp hn => put_of hp hn
set_option maxHeartbeats 4000000 in
theorem change_spec {φ : Led} {T : TA} {S : TState} {x l : Addr} {vs : List Value} {n : Nat} {ps : List (Int × Int × Int)}
    (X₀ : Tx φ T S) (hex : x = T.x) (hp : (l, listOf vs.toArray n) ∈ φ) (hn : l ∉ T.own) (hP : Pcs φ vs ps) (hz : vs.length ≤ 100000) (hz2 : S.past.length ≤ 100000) :
    Spec 82 [.ref x, .ref l] 2 φ (fun r ψ => r = .none ∧ ∃ T', Tx ψ T' { S with past := S.past ++ [S.pieces], future := [], pieces := joinP ps } ∧ Frame φ T ψ T') := by
  subst hex
  walk_at "my_fill"
  walk_at "my_enter"
  intro prog w p loose mean mg mb dp un gd outer A₀ base g L s B F X N Tp hdp hun
  k_fold
  have U := uniq_of N
  obtain ⟨hx, hd, hb, hpl, ha, hf, hB, hPl, hA, hF, d1, d2, d3, d4⟩ := id X₀
  have hz3 : T.avs.length ≤ 100000 := by rw [hA.length]; exact hz2
  iterate 14 walk1
  rename Fr _ _ _ _ => F₁
  rename News _ _ _ _ => N₁
  have X₁ := X₀.pushPast U hpl d4 hPl
  have nt1 : NoTup φ T.al := noTup_of U ha (by simp)
  have hla : l ≠ T.al := fun e => hn (by simp [e])
  have hlf : l ≠ T.fl := fun e => hn (by simp [e])
  have hlb : l ≠ T.bl := fun e => hn (by simp [e])
  have hp₁ := put_of (o := listOf (T.avs ++ [Value.ref T.pl]).toArray (T.na + 1)) hp hla
  have hP₁ := hP.putN (o := listOf (T.avs ++ [Value.ref T.pl]).toArray (T.na + 1)) nt1
  have k₁ : Keep φ T.fp (put T.al (listOf (T.avs ++ [Value.ref T.pl]).toArray (T.na + 1)) φ) := (Keep.refl _ _).put fun p hp hn e => hn (by rw [e]; simp [TA.fp])
  have U₁ := uniq_of N₁
  generalize put T.al (listOf (T.avs ++ [Value.ref T.pl]).toArray (T.na + 1)) φ = φ₁ at *
  obtain ⟨hx1, hd1, -, -, -, -, -, -, -, -, -, -, -, -⟩ := id X₁
  clear hx hd hb hpl ha hf hPl hA hF nt1
  dsimp only at hx1 hd1
  iterate 6 walk1
  rename Addr => nl
  rename (∀ p ∈ φ₁, _) => l1
  have hfr1 : ∀ p ∈ φ₁, p.1 ≠ nl := fun p hp => Nat.ne_of_lt (l1 p hp)
  have U₂ := U₁.cons (o := listOf #[] 0) hfr1
  have X₂ := X₁.newFuture U₂ hfr1
  have nt2 : NoTup ((nl, listOf #[] 0) :: φ₁) T.dx := noTup_of U₂ (mem_tl hd1) (by simp)
  have hne2 : l ≠ T.dx := clsNe U₁ hp₁ hd1 (by simp)
  have hln : l ≠ nl := hfr1 _ hp₁
  iterate 1 walk1
  rename Fr _ _ _ _ => F₂
  rename News _ _ _ _ => N₂
  have U₃ := uniq_of N₂
  dsimp only at X₂
  simp only [TA.dict] at X₂
  have hp₂ := put_of (o := dictOf [⟨T.g1, .str (Str.ofString "buffers") T.t1, .ref T.bl⟩, ⟨T.g2, .str (Str.ofString "pieces") T.t2, .ref T.pl⟩, ⟨T.g3, .str (Str.ofString "past") T.t3, .ref T.al⟩, ⟨T.g4, .str (Str.ofString "future") T.t4, .ref nl⟩] 4) (mem_tl (b := (nl, listOf #[] 0)) hp₁) hne2
  have hP₂ := (hP₁.sub fun p hp => mem_tl (b := (nl, listOf #[] 0)) hp).putN (o := dictOf [⟨T.g1, .str (Str.ofString "buffers") T.t1, .ref T.bl⟩, ⟨T.g2, .str (Str.ofString "pieces") T.t2, .ref T.pl⟩, ⟨T.g3, .str (Str.ofString "past") T.t3, .ref T.al⟩, ⟨T.g4, .str (Str.ofString "future") T.t4, .ref nl⟩] 4) nt2
  have k₂ : Keep φ₁ T.fp (put T.dx (dictOf [⟨T.g1, .str (Str.ofString "buffers") T.t1, .ref T.bl⟩, ⟨T.g2, .str (Str.ofString "pieces") T.t2, .ref T.pl⟩, ⟨T.g3, .str (Str.ofString "past") T.t3, .ref T.al⟩, ⟨T.g4, .str (Str.ofString "future") T.t4, .ref nl⟩] 4) ((nl, listOf #[] 0) :: φ₁)) := (Keep.refl _ _).cons.put fun p hp hn e => hn (by rw [e]; simp [TA.fp])
  generalize put T.dx (dictOf [⟨T.g1, .str (Str.ofString "buffers") T.t1, .ref T.bl⟩, ⟨T.g2, .str (Str.ofString "pieces") T.t2, .ref T.pl⟩, ⟨T.g3, .str (Str.ofString "past") T.t3, .ref T.al⟩, ⟨T.g4, .str (Str.ofString "future") T.t4, .ref nl⟩] 4) ((nl, listOf #[] 0) :: φ₁) = φ₂ at *
  obtain ⟨hx2, hd2, -, -, -, -, -, -, -, -, -, -, -, -⟩ := id X₂
  clear hx1 hd1 nt2 hp₁ hP₁
  dsimp only at hx2 hd2
  iterate 10 walk1
  rename_i φ₃ F₃ N₃ l3 us3 k3 hl3 hP3 hk3 hf3
  have X₃ := X₂.sub hk3.sub
  have U₄ := uniq_of N₃
  have hn3 : l3 ∉ [T.bl, T.al, nl] := by
    simp only [List.mem_cons, List.not_mem_nil, or_false, not_or]
    exact ⟨(hf3 _ X₂.hb).symm, (hf3 _ X₂.ha).symm, (hf3 _ X₂.hf).symm⟩
  have X₄ := X₃.setPieces U₄ hl3 hn3 hP3
  obtain ⟨hx3, hd3, -, -, -, -, -, -, -, -, -, -, -, -⟩ := id X₃
  clear hx2 hd2
  dsimp only at hx3 hd3
  repeat' walk1
  rename Fr _ _ _ _ => F₄
  rename News _ _ _ _ => N₄
  refine BodyEnd.next F₄ N₄ ⟨rfl, _, X₄, rfl, ?_, ?_⟩
  · refine Keep.put ((k₁.trans k₂).trans (fun p hp _ => hk3.sub _ hp)) fun p hp hn e => hn (by rw [e]; simp [TA.fp])
  · intro b hb
    simp only [TA.fp, List.mem_cons, List.not_mem_nil, or_false] at hb ⊢
    rcases hb with rfl | rfl | rfl | rfl | rfl
    · exact .inl (.inl rfl)
    · exact .inl (.inr (.inl rfl))
    · exact .inl (.inr (.inr (.inl rfl)))
    · exact .inl (.inr (.inr (.inr (.inl rfl))))
    · by_cases h : b = T.fl
      · exact .inl (.inr (.inr (.inr (.inr h))))
      · refine .inr fun p hp e => ?_
        by_cases hq : p.1 ∈ T.fp
        · obtain ⟨o, ho⟩ := X₁.fpIn _ hq
          exact hfr1 _ ho e
        · exact hfr1 _ (k₁ _ hp hq) e

theorem kw_36 : True := by
  (k_with "w call ref" => ((with_reducible show wpAny _ _ (call (Value.ref 82) _) _ _ _); (refine' Spec.use (change_spec ?w_Xt ?w_e ?w_m ?w_n ?w_P ?w_z ?w_z2) ?w_B ?w_F ?w_X ?w_N ?w_T ?w_k ?w_d ?w_u ?_; (case w_B => assumption); (case w_F => k_asm); (case w_X => assumption); (case w_N => k_asm); (case w_T => assumption); (case w_Xt => walk_at "my_tx"); (case w_e => exact rfl); (case w_m => walk_at "my_mem"); (case w_n => assumption); (case w_P => walk_at "my_pcs"); (case w_z => first | assumption | (simp only [List.length_append, List.length_cons, List.length_nil]; omega)); (case w_z2 => first | omega | (dsimp only; omega)); (case w_k => exact rfl); (case w_d => omega); (case w_u => omega); intro _ _ _ _ _ _ hr'; obtain ⟨e', _⟩ := hr'; subst e'; (try k_sweep))))
  exact trivial

theorem off_Check : True := by w_top off; exact trivial
set_option maxHeartbeats 4000000 in
theorem check_spec {φ : Led} {T : TA} {S : TState} {x : Addr} {begin fin : Int} {tb te : Tok}
    (X₀ : Tx φ T S) (hex : x = T.x) (h0 : 0 ≤ begin) (h1 : begin ≤ fin) (h2 : fin ≤ lenP S.pieces) :
    Spec 75 [.ref x, .int begin tb, .int fin te] 2 φ (fun r ψ => r = .none ∧ Keep φ [] ψ) := by
  subst hex
  walk_at "my_fill"
  walk_at "my_enter"
  intro prog w p loose mean mg mb dp un gd outer A₀ base g L s B F X N Tp hdp hun
  k_fold
  obtain ⟨hx, hd, hb, hpl, ha, hf, hB, hPl, hA, hF, d1, d2, d3, d4⟩ := id X₀
  repeat' walk1
  rename_i k1 _ _ _ _ F₁ N₁ k2 _
  exact BodyEnd.next F₁ N₁ ⟨rfl, k1.trans k2⟩

theorem kw_37 : True := by
  (k_with "w call ref" => ((with_reducible show wpAny _ _ (call (Value.ref 75) _) _ _ _); (refine' Spec.use (check_spec ?w_Xt ?w_e ?w_a ?w_b ?w_c) ?w_B ?w_F ?w_X ?w_N ?w_T ?w_k ?w_d ?w_u ?_; (case w_B => assumption); (case w_F => k_asm); (case w_X => assumption); (case w_N => k_asm); (case w_T => assumption); (case w_Xt => walk_at "my_tx"); (case w_e => exact rfl); (case w_a => omega); (case w_b => omega); (case w_c => omega); (case w_k => exact rfl); (case w_d => omega); (case w_u => omega); intro _ _ _ _ _ _ hr'; obtain ⟨e', _⟩ := hr'; subst e'; (try k_sweep))))
  exact trivial

theorem off_Read : True := by w_top off; exact trivial
def bufAt (bufs : List Str) (b : Int) : Str := bufs.getD b.toNat (Str.mk #[])
def okP (bufs : List Str) (q : Int × Int × Int) : Prop := 0 ≤ q.1 ∧ q.1 < bufs.length ∧ 0 ≤ q.2.1 ∧ 0 < q.2.2 ∧ q.2.1 + q.2.2 ≤ ((bufAt bufs q.1).length : Int)
theorem cut_ok {bufs : List Str} {begin fin : Int} : ∀ (ps : List (Int × Int × Int)) (st : List (Int × Int × Int) × Int), (∀ q ∈ ps, okP bufs q) → (∀ q ∈ st.1, okP bufs q) → ∀ q ∈ (ps.foldl (cutStep begin fin) st).1, okP bufs q
  | [], _, _, h => h
  | p :: ps, st, hp, h => by
    refine cut_ok ps _ (fun q hq => hp q (List.Mem.tail _ hq)) ?_
    have h1 := hp p (List.Mem.head _)
    unfold cutStep
    dsimp only
    split
    · rename_i hlt
      intro q hq
      rcases List.mem_append.mp hq with hq | hq
      · exact h q hq
      · rw [List.mem_singleton.mp hq]
        obtain ⟨a1, a2, a3, a4, a5⟩ := h1
        have b1 : 0 ≤ pyMax (begin - st.2) 0 := by unfold pyMax; split <;> omega
        have b2 : pyMin (fin - st.2) p.2.2 ≤ p.2.2 := by unfold pyMin; split <;> omega
        exact ⟨a1, a2, by dsimp only; omega, by dsimp only; omega, by dsimp only; omega⟩
    · exact h
def pieceText (bufs : List Str) (q : Int × Int × Int) : Str := Txt.slice (bufAt bufs q.1) (some q.2.1) (some (q.2.1 + q.2.2))
theorem strs_get {vs : List Value} {ys : List Str} (h : StrsAre vs ys) {i : Nat} (hi : i < ys.length) : ∃ t, vs[i]? = some (.str (ys.getD i (Str.mk #[])) t) := by
  induction h generalizing i with
  | nil => exact absurd hi (Nat.not_lt_zero _)
  | cons y t _ ih =>
    cases i with
    | zero => exact ⟨t, rfl⟩
    | succ i =>
      obtain ⟨t', h'⟩ := ih (Nat.lt_of_succ_lt_succ hi)
      exact ⟨t', by simpa using h'⟩
theorem strs_length {vs : List Value} {ys : List Str} (h : StrsAre vs ys) : vs.length = ys.length := by
  induction h with
  | nil => rfl
  | cons _ _ _ ih => rw [List.length_cons, List.length_cons, ih]
set_option maxHeartbeats 1500000 in
theorem read_spec {φ : Led} {T : TA} {S : TState} {x : Addr} {begin fin : Int} {tb te : Tok}
    (X₀ : Tx φ T S) (hex : x = T.x) (h0 : 0 ≤ begin) (h1 : begin ≤ fin) (h2 : fin ≤ lenP S.pieces) (hz : T.pvs.length ≤ 100000) (hz2 : S.bufs.length ≤ 100000) (hok : ∀ q ∈ S.pieces, okP S.bufs q) (hbl : ∀ b, (bufAt S.bufs b).length ≤ 100000) (hcl : (cutP S.pieces begin fin).length ≤ 100000)
    (hj : (((cutP S.pieces begin fin).map (pieceText S.bufs)).map (·.length)).sum ≤ 16777216) :
    Spec 110 [.ref x, .int begin tb, .int fin te] 3 φ (fun r ψ => (∃ t, r = .str (Txt.join (Str.ofString "") ((cutP S.pieces begin fin).map (pieceText S.bufs))) t) ∧ Keep φ [] ψ) := by
  subst hex
  walk_at "my_fill"
  walk_at "my_enter"
  intro prog w p loose mean mg mb dp un gd outer A₀ base g L s B F X N Tp hdp hun
  k_fold
  obtain ⟨hx, hd, hb, hpl, ha, hf, hB, hPl, hA, hF, d1, d2, d3, d4⟩ := id X₀
  repeat' (first | (refine wpAny_For ?_) | walk1)
  rename_i φ₁ k₁ l₁ _ l1 _ _ _ φ₂ F' N' l₂ us₂ n₂ hl₂ hP₂ k₂ hf₂ _
  have U₂ := uniq_of N'
  have hl₁ : (l₁, listOf #[] 0) ∈ φ₂ := k₂.sub _ mem_hd
  have nt := noTup_of U₂ hl₁ (by simp)
  have hne : l₂ ≠ l₁ := fun e => hf₂ _ mem_hd e.symm
  have hx₂ : (T.x, instObj 134 T.dx) ∈ φ₂ := k₂.sub _ (mem_tl (k₁.sub _ hx))
  have hd₂ : (T.dx, T.dict) ∈ φ₂ := k₂.sub _ (mem_tl (k₁.sub _ hd))
  have hb₂ : (T.bl, listOf T.bvs.toArray T.nb) ∈ φ₂ := k₂.sub _ (mem_tl (k₁.sub _ hb))
  have nx : T.x ≠ l₁ := Nat.ne_of_lt (l1 _ (k₁.sub _ hx))
  have nd : T.dx ≠ l₁ := Nat.ne_of_lt (l1 _ (k₁.sub _ hd))
  have nb : T.bl ≠ l₁ := Nat.ne_of_lt (l1 _ (k₁.sub _ hb))
  have hzb : T.bvs.length ≤ 16777216 := by rw [strs_length hB]; omega
  have hokc : ∀ q ∈ cutP S.pieces begin fin, okP S.bufs q := cut_ok _ _ hok (fun _ h => nomatch h)
  generalize hcs : cutP S.pieces begin fin = cs at *
  refine iter_list (c := n₂) (fun i m ψ => m (Str.ofString "found") = some (.ref l₁) ∧ m (Str.ofString "self") = some (.ref T.x) ∧
    Keep φ₂ [l₁] ψ ∧ ∃ us k, us.length ≤ i ∧ (l₁, listOf us.toArray k) ∈ ψ ∧ StrsAre us ((cs.take i).map (pieceText S.bufs))) rfl F' N' ⟨rfl, rfl, Keep.refl _ _, [], 0, Nat.le_refl _, hl₁, .nil⟩ ?_ ?_ ?_ ?_ (go_pcs hP₂)
  · rintro i m ψ ψ' hs ⟨h2, h3, h5, us, k, h6, h7, h8⟩
    exact ⟨h2, h3, fun p hp hn => hs p (h5 p hp hn) (.inr hp), us, k, h6, hs _ h7 (.inl rfl), h8⟩
  · rintro i m ψ ⟨h2, h3, h5, _⟩
    exact h5 _ hl₂ (by simpa using hne)
  · rintro i v m₁ ψ I Io h tk hv ⟨h2, h3, h5, us, k, h6, h7, h8⟩ hI hI' F₂ N₂
    obtain ⟨ta, b, f, c, u1, u2, u3, q, rfl, hps, hm⟩ := hP₂.get hv
    have hlI : l₁ ≠ I := hI _ hl₁
    obtain ⟨o1, o2, o3, o4, o5⟩ := hokc _ (List.mem_of_getElem? hps)
    dsimp only at o1 o2 o3 o4 o5
    obtain ⟨tb', hbuf⟩ := strs_get hB (i := b.toNat) (by omega)
    have hyl : (S.bufs.getD b.toNat (Str.mk #[])).length ≤ 16777216 := Nat.le_trans (hbl b) (by decide)
    refine assign3 (fr_put2 h2 h3 F₂) N₂ (List.Mem.tail _ (h5 _ hm (by simpa using nt _ _ _ hm))) rfl fun h₃ tk₃ F₃ N₃ => ?_
    k_fold
    have hu : Uniq ψ := uniq_of (newsSub N₂ fun p hp => mem_tl hp)
    have hx₃ := h5 _ hx₂ (by simpa using nx)
    have hd₃ := h5 _ hd₂ (by simpa using nd)
    have hb₃ := h5 _ hb₂ (by simpa using nb)
    have hi : i < us₂.length := by
      rcases Nat.lt_or_ge i us₂.length with h | h
      · exact h
      · rw [List.getElem?_eq_none h] at hv; cases hv
    have hzz : us.length ≤ 16777216 := by have := hP₂.length; omega
    clear h2 h3 F₂ N₂ F' N' hv hx hd hb hx₂ hd₂ hb₂
    repeat' walk1
    rename Fr _ _ _ _ => F₄
    rename News _ _ _ _ => N₄
    refine ⟨_, _, _, _, rfl, F₄, N₄, put_of mem_hd (Ne.symm hlI), rfl, rfl, Keep.put h5.cons (fun p hp hn e => hn (by rw [e]; exact List.Mem.head _)), _, _, ?_, put_self _ _ _, ?_⟩
    · rw [List.length_append, List.length_singleton]; omega
    · rw [List.take_add_one, hps]
      simp only [Option.toList, List.map_append, List.map_cons, List.map_nil]
      exact strsSnoc h8
  · rintro m₁ ψ h tk ⟨h2, h3, h5, us, k, h6, h7, h8⟩ F₂ N₂
    have F₃ := fr_put1 h2 F₂
    clear F₂ h2 h3 F' N'
    rw [hP₂.length, List.take_length] at h8
    repeat' walk1
    dsimp only
    refine BodyEnd.ret F₃ N₂ ⟨⟨_, by rw [hcs]⟩, fun p hp hn => h5 _ (k₂.sub _ (mem_tl (k₁.sub _ hp))) ?_⟩
    simpa using Nat.ne_of_lt (l1 _ (k₁.sub _ hp))

theorem off_PureB : True := by w_top off; exact trivial
abbrev P3 := Int × Int × Int
def ptx (bufs : List Str) (q : P3) : List Nat := tx (pieceText bufs q)
def val (bufs : List Str) (ps : List P3) : List Nat := (ps.map (ptx bufs)).flatten
theorem val_nil {bufs : List Str} : val bufs [] = [] := rfl
theorem val_cons {bufs : List Str} {q : P3} {ps : List P3} : val bufs (q :: ps) = ptx bufs q ++ val bufs ps := rfl
theorem val_append {bufs : List Str} {ps qs : List P3} : val bufs (ps ++ qs) = val bufs ps ++ val bufs qs := by
  unfold val; rw [List.map_append, List.flatten_append]
theorem val_one {bufs : List Str} {q : P3} : val bufs [q] = ptx bufs q := by simp [val]
theorem ptx_eq {bufs : List Str} {q : P3} (h : okP bufs q) : ptx bufs q = ((tx (bufAt bufs q.1)).drop q.2.1.toNat).take q.2.2.toNat := by
  obtain ⟨a1, a2, a3, a4, a5⟩ := h
  unfold ptx pieceText
  rw [slice_ss a3 (by omega) a5]
  congr 1
  omega
theorem ptx_len {bufs : List Str} {q : P3} (h : okP bufs q) : ((ptx bufs q).length : Int) = q.2.2 := by
  have e := ptx_eq h
  obtain ⟨a1, a2, a3, a4, a5⟩ := h
  rw [e, List.length_take, List.length_drop, tx_len]
  omega
theorem lenP_cons {q : P3} {ps : List P3} : lenP (q :: ps) = q.2.2 + lenP ps := by simp [lenP]
theorem val_len {bufs : List Str} : ∀ {ps : List P3}, (∀ q ∈ ps, okP bufs q) → ((val bufs ps).length : Int) = lenP ps
  | [], _ => rfl
  | q :: ps, h => by
    have h1 := ptx_len (h q (List.Mem.head _))
    have h2 := val_len (ps := ps) fun q hq => h q (List.Mem.tail _ hq)
    rw [val_cons, List.length_append, lenP_cons]
    omega
theorem len_le {bufs : List Str} : ∀ {ps : List P3}, (∀ q ∈ ps, okP bufs q) → ps.length ≤ (val bufs ps).length
  | [], _ => Nat.le_refl _
  | q :: ps, h => by
    have h1 := ptx_len (h q (List.Mem.head _))
    have h3 := (h q (List.Mem.head _)).2.2.2.1
    have h2 := len_le (ps := ps) fun q hq => h q (List.Mem.tail _ hq)
    rw [val_cons, List.length_append, List.length_cons]
    omega
theorem cut_val {bufs : List Str} {b e : Int} : ∀ (ps : List P3) (acc : List P3) (pl : Int), (∀ q ∈ ps, okP bufs q) →
    val bufs (ps.foldl (cutStep b e) (acc, pl)).1 = val bufs acc ++ ((val bufs ps).drop (b - pl).toNat).take ((e - pl).toNat - (b - pl).toNat)
  | [], acc, pl, _ => by simp [val_nil]
  | q :: ps, acc, pl, h => by
    have hq := h q (List.Mem.head _)
    have hl := ptx_len hq
    have hx := ptx_eq hq
    have ih := fun acc pl => cut_val (b := b) (e := e) ps acc pl fun q hq => h q (List.Mem.tail _ hq)
    rw [List.foldl_cons, val_cons, List.drop_append, List.take_append]
    have e1 : (b - pl).toNat - (ptx bufs q).length = (b - (pl + q.2.2)).toNat := by omega
    have e2 : (e - pl).toNat - (b - pl).toNat - (List.drop (b - pl).toNat (ptx bufs q)).length = (e - (pl + q.2.2)).toNat - (b - (pl + q.2.2)).toNat := by
      rw [List.length_drop]; omega
    rw [e1, e2]
    rw [show cutStep b e (acc, pl) q = (if pyMax (b - pl) 0 < pyMin (e - pl) q.2.2 then acc ++ [(q.1, q.2.1 + pyMax (b - pl) 0, pyMin (e - pl) q.2.2 - pyMax (b - pl) 0)] else acc, pl + q.2.2) from rfl]
    obtain ⟨a1, a2, a3, a4, a5⟩ := hq
    split
    · rename_i hlt
      rw [ih, val_append, val_one, List.append_assoc]
      congr 2
      have m1 : pyMax (b - pl) 0 = ((b - pl).toNat : Int) := by unfold pyMax; split <;> omega
      have m2 : pyMin (e - pl) q.2.2 ≤ q.2.2 := by unfold pyMin; split <;> omega
      have m3 : pyMin (e - pl) q.2.2 ≤ e - pl := by unfold pyMin; split <;> omega
      have m4 : pyMin (e - pl) q.2.2 = e - pl ∨ pyMin (e - pl) q.2.2 = q.2.2 := by unfold pyMin; split <;> omega
      generalize pyMin (e - pl) q.2.2 = hi at *
      rw [m1] at hlt ⊢
      generalize (b - pl).toNat = d at *
      rw [ptx_eq (q := (q.1, q.2.1 + (d : Int), hi - (d : Int))) ⟨a1, a2, by dsimp only; omega, by dsimp only; omega, by dsimp only; omega⟩, hx]
      dsimp only
      rw [List.drop_take, List.drop_drop, List.take_take]
      congr 1
      · omega
      · congr 1; omega
    · rename_i hlt
      rw [ih]
      congr 1
      have : List.take ((e - pl).toNat - (b - pl).toNat) (List.drop (b - pl).toNat (ptx bufs q)) = [] := by
        have m1 : pyMax (b - pl) 0 = ((b - pl).toNat : Int) := by unfold pyMax; split <;> omega
        rw [m1] at hlt
        unfold pyMin at hlt
        rw [← List.length_eq_zero_iff, List.length_take, List.length_drop]
        split at hlt <;> omega
      rw [this, List.nil_append]
theorem val_cut {bufs : List Str} {ps : List P3} {b e : Int} (h0 : 0 ≤ b) (h : ∀ q ∈ ps, okP bufs q) : val bufs (cutP ps b e) = ((val bufs ps).drop b.toNat).take (e - b).toNat := by
  unfold cutP
  rw [cut_val ps [] 0 h, val_nil, List.nil_append]
  congr 1
  · omega
  · simp
theorem cutP_ok {bufs : List Str} {ps : List P3} {b e : Int} (h : ∀ q ∈ ps, okP bufs q) : ∀ q ∈ cutP ps b e, okP bufs q := cut_ok _ _ h fun _ h => nomatch h
theorem join_val {bufs : List Str} : ∀ (ps st : List P3), (∀ q ∈ ps, okP bufs q) → (∀ q ∈ st, okP bufs q) → val bufs (ps.foldl joinStep st) = val bufs st ++ val bufs ps ∧ ∀ q ∈ ps.foldl joinStep st, okP bufs q
  | [], st, _, h2 => by rw [List.foldl_nil]; exact ⟨by rw [val_nil, List.append_nil], h2⟩
  | p :: ps, st, h1, h2 => by
    have hp := h1 p (List.Mem.head _)
    have h1' : ∀ q ∈ ps, okP bufs q := fun q hq => h1 q (List.Mem.tail _ hq)
    have key : val bufs (joinStep st p) = val bufs st ++ ptx bufs p ∧ ∀ q ∈ joinStep st p, okP bufs q := by
      rcases List.eq_nil_or_concat st with rfl | ⟨st', q, e⟩
      · refine ⟨by show val bufs [p] = _; rw [val_one, val_nil, List.nil_append], fun q hq => ?_⟩
        rw [List.mem_singleton.mp hq]; exact hp
      · rw [List.concat_eq_append] at e
        subst e
        have hq := h2 q (by simp)
        rw [joinStep_snoc]
        split
        · rename_i hc
          obtain ⟨c1, c2⟩ := hc
          have eq1 := ptx_eq hq
          have eq2 := ptx_eq hp
          obtain ⟨a1, a2, a3, a4, a5⟩ := hq
          obtain ⟨b1, b2, b3, b4, b5⟩ := hp
          have hn : okP bufs (p.1, q.2.1, q.2.2 + p.2.2) := ⟨b1, b2, a3, by dsimp only; omega, by dsimp only; rw [← c1] at b5 ⊢; omega⟩
          constructor
          · rw [val_append, val_append, val_one, val_one, List.append_assoc, eq1, eq2, ptx_eq hn]
            congr 1
            dsimp only
            rw [show (q.2.2 + p.2.2).toNat = q.2.2.toNat + p.2.2.toNat by omega, List.take_add, c1, List.drop_drop]
            congr 3
            omega
          · intro r hr
            rcases List.mem_append.mp hr with hr | hr
            · exact h2 r (List.mem_append_left _ hr)
            · rw [List.mem_singleton.mp hr]; exact hn
        · refine ⟨by rw [val_append, val_one], fun r hr => ?_⟩
          rcases List.mem_append.mp hr with hr | hr
          · exact h2 r hr
          · rw [List.mem_singleton.mp hr]; exact hp
    have := join_val ps (joinStep st p) h1' key.2
    rw [List.foldl_cons]
    refine ⟨?_, this.2⟩
    rw [this.1, key.1, List.append_assoc, val_cons]
theorem val_joined {bufs : List Str} {ps : List P3} (h : ∀ q ∈ ps, okP bufs q) : val bufs (joinP ps) = val bufs ps := by
  have := (join_val ps [] h fun _ h => nomatch h).1
  rw [val_nil, List.nil_append] at this
  exact this
theorem joined_ok {bufs : List Str} {ps : List P3} (h : ∀ q ∈ ps, okP bufs q) : ∀ q ∈ joinP ps, okP bufs q := (join_val ps [] h fun _ h => nomatch h).2
theorem bufAt_more {bufs : List Str} {y : Str} {b : Int} (h0 : 0 ≤ b) (h : b < bufs.length) : bufAt (bufs ++ [y]) b = bufAt bufs b := by
  unfold bufAt
  rw [List.getD_eq_getElem?_getD, List.getD_eq_getElem?_getD, List.getElem?_append_left (by omega)]
theorem okP_more {bufs : List Str} {y : Str} {q : P3} (h : okP bufs q) : okP (bufs ++ [y]) q := by
  have e := bufAt_more (y := y) h.1 h.2.1
  obtain ⟨a1, a2, a3, a4, a5⟩ := h
  exact ⟨a1, by rw [List.length_append, List.length_singleton]; omega, a3, a4, by rw [e]; exact a5⟩
theorem ptx_more {bufs : List Str} {y : Str} {q : P3} (h : okP bufs q) : ptx (bufs ++ [y]) q = ptx bufs q := by
  unfold ptx pieceText
  rw [bufAt_more h.1 h.2.1]
theorem val_more {bufs : List Str} {y : Str} : ∀ {ps : List P3}, (∀ q ∈ ps, okP bufs q) → val (bufs ++ [y]) ps = val bufs ps
  | [], _ => rfl
  | q :: ps, h => by rw [val_cons, val_cons, ptx_more (h q (List.Mem.head _)), val_more fun q hq => h q (List.Mem.tail _ hq)]
theorem okP_new {bufs : List Str} {y : Str} (h : tx y ≠ []) : okP (bufs ++ [y]) ((bufs.length : Int), 0, (y.length : Int)) := by
  have e : bufAt (bufs ++ [y]) (bufs.length : Int) = y := by unfold bufAt; simp
  have : (tx y).length ≠ 0 := fun e => h (List.length_eq_zero_iff.mp e)
  rw [tx_len] at this
  refine ⟨by dsimp only; omega, by rw [List.length_append, List.length_singleton]; dsimp only; omega, Int.le_refl _, by dsimp only; omega, ?_⟩
  show _ ≤ ((bufAt (bufs ++ [y]) (bufs.length : Int)).length : Int)
  rw [e]
  dsimp only; omega
theorem ptx_new {bufs : List Str} {y : Str} (h : tx y ≠ []) : ptx (bufs ++ [y]) ((bufs.length : Int), 0, (y.length : Int)) = tx y := by
  rw [ptx_eq (okP_new h)]
  have e : bufAt (bufs ++ [y]) (bufs.length : Int) = y := by unfold bufAt; simp
  dsimp only
  rw [e]
  simp only [Int.toNat_zero, List.drop_zero, Int.toNat_natCast]
  rw [← tx_len, List.take_length]

theorem off_Adds : True := by w_top off; exact trivial
theorem Pcs.append {φ : Led} {us vs : List Value} {ps qs : List P3} (h : Pcs φ us ps) (h2 : Pcs φ vs qs) : Pcs φ (us ++ vs) (ps ++ qs) := by
  induction h with
  | nil => exact h2
  | cons hm _ ih => exact .cons hm ih
section
variable {prog : Program} {w : World} {A : Around} {E : Value → Shared → Prop} {s : Shared} {L a b : Addr} {h₀ : Heap} {m : Str → Option Value} {φ : Led}
theorem add_led {us us2 : List Value} {k k2 : Nat} {Q : Value → Shared → Prop} (F : Fr h₀ L s.heap m) (N : News h₀ L s.heap φ) (ha : (a, listOf us.toArray k) ∈ φ) (hb : (b, listOf us2.toArray k2) ∈ φ) (hz : us.length + us2.length ≤ 16777216)
    (h : ∀ D h', Fr h₀ L h' m → News h₀ L h' ((D, listOf (us ++ us2).toArray 0) :: φ) → (∀ p ∈ φ, p.1 < D) → Q (.ref D) { s with heap := h' }) : wpAny (model prog w) A (binaryOp .Add (.ref a) (.ref b)) Q E s := by
  refine add_lists F N (isList_led N ha) (isList_led N hb) (fun h' F' N' => ?_) (by rw [sizeLine_eq]; exact hz)
  exact h _ h' F' N' fun p hp => Heap.lt_size (N p hp).1
end
theorem frame_from {φ χ ψ : Led} {T T₁ T' : TA} {S₁ : TState} (k : Keep φ T.fp χ) (X₁ : Tx χ T₁ S₁) (e1 : T₁.x = T.x) (e2 : T₁.fp = T.fp) (h : Frame χ T₁ ψ T') : Frame φ T ψ T' := by
  obtain ⟨f1, f2, f3⟩ := h
  rw [e2] at f2 f3
  refine ⟨f1.trans e1, k.trans f2, fun b hb => ?_⟩
  rcases f3 b hb with h | h
  · exact .inl h
  · refine .inr fun p hp => ?_
    by_cases hq : p.1 ∈ T.fp
    · obtain ⟨o, ho⟩ := X₁.fpIn p.1 (by rw [e2]; exact hq)
      exact h (p.1, o) ho
    · exact h _ (k _ hp hq)
theorem Keep.more {φ χ ψ : Led} {fp : List Addr} (k : Keep φ fp χ) (h : ∀ p ∈ χ, p ∈ ψ) : Keep φ fp ψ := fun p hp hn => h p (k p hp hn)

theorem kw_38 : True := by
  (k_with "w binaryOp Add ref ref" => ((with_reducible show wpAny _ _ (binaryOp _ (Value.ref _) (Value.ref _)) _ _ _); (refine' add_led ?w_F ?w_N ?w_a ?w_b ?w_z ?_; (case w_F => k_asm); (case w_N => k_asm); (case w_a => walk_at "my_mem"); (case w_b => walk_at "my_mem"); (case w_z => first | assumption | omega | (simp only [List.length_append, List.length_cons, List.length_nil]; omega)); intro _ _ _ _ _; (try k_sweep))))
  exact trivial

theorem off_Insert : True := by w_top off; exact trivial
def TState.change (S : TState) (ps : List (Int × Int × Int)) : TState := { S with past := S.past ++ [S.pieces], future := [], pieces := joinP ps }
def insP (S : TState) (at' : Int) (y : Str) : List (Int × Int × Int) := cutP S.pieces 0 at' ++ [((S.bufs.length : Int), 0, (y.length : Int))] ++ cutP S.pieces at' (lenP S.pieces)
theorem notOwn {φ : Led} {T : TA} {S : TState} {D : Addr} (X : Tx φ T S) (h : ∀ p ∈ φ, p.1 < D) : D ∉ T.own := by
  simp only [List.mem_cons, List.not_mem_nil, or_false, not_or]
  exact ⟨Nat.ne_of_gt (h _ X.hb), Nat.ne_of_gt (h _ X.ha), Nat.ne_of_gt (h _ X.hf)⟩
set_option maxHeartbeats 1500000 in
theorem insert_spec {φ : Led} {T : TA} {S : TState} {at' : Int} {y : Str} {tb ty : Tok}
    (X₀ : Tx φ T S) (h0 : 0 ≤ at') (h2 : at' ≤ lenP S.pieces) (hy : tx y ≠ []) (hz : T.pvs.length ≤ 100) (hz2 : S.bufs.length ≤ 1000) (hz3 : S.past.length ≤ 1000) (hyl : y.length ≤ 1000)  :
    Spec 89 [.ref T.x, .int at' tb, .str y ty] 4 φ (fun r ψ => r = .none ∧ ∃ T', Tx ψ T' ({ S with bufs := S.bufs ++ [y] }.change (insP S at' y)) ∧ Frame φ T ψ T') := by
  walk_at "my_fill"
  walk_at "my_enter"
  intro prog w p loose mean mg mb dp un gd outer A₀ base g L s B F X N Tp hdp hun
  k_fold
  obtain ⟨hx, hd, hb, hpl, ha, hf, hB, hPl, hA, hF, d1, d2, d3, d4⟩ := id X₀
  have hzb : T.bvs.length ≤ 1000 := by rw [strs_length hB]; exact hz2
  have hne : ¬ (y = Str.ofString "") := fun e => hy (by rw [e]; decide +kernel)
  iterate 21 walk1
  rotate_left
  · rename (_ = false) => hc
    rw [bne_eq_false_iff_eq] at hc
    exact absurd hc hne
  rename Keep _ _ _ => k₁
  have X₁ := X₀.sub k₁.sub
  rename News _ _ _ _ => N₀
  have U₁ := uniq_of N₀
  iterate 13 walk1
  rename Fr _ _ _ _ => F₁
  rename News _ _ _ _ => N₁
  have X₂ := X₁.pushBuf U₁ y ty
  have k₂ : Keep φ T.fp (put T.bl (listOf (T.bvs ++ [Value.str y ty]).toArray (T.nb + 1)) _) := (fun p hp hn => put_of (k₁.sub _ hp) fun e => hn (by rw [e]; simp [TA.fp]))
  generalize put T.bl (listOf (T.bvs ++ [Value.str y ty]).toArray (T.nb + 1)) _ = φ₂ at *
  obtain ⟨hx2, hd2, hb2, hpl2, -, -, -, hPl2, -, -, -, -, -, -⟩ := id X₂
  clear hx hd hb hpl ha hf hPl hA hF X₁ k₁ U₁
  dsimp only at hx2 hd2 hb2 hpl2 hPl2
  have hz4 : (T.bvs ++ [Value.str y ty]).length ≤ 2000 := by rw [List.length_append, List.length_singleton]; omega
  have hz5 : S.pieces.length ≤ 100 := by rw [← hPl2.length]; exact hz
  have e1 : (((T.bvs ++ [Value.str y ty]).length : Int) - 1) = (S.bufs.length : Int) := by rw [List.length_append, List.length_singleton, strs_length hB]; omega
  repeat' walk1
  rename_i D2 _ l2 _ _ _ φa la usa ka hla hPa hka hfa hna lb _ lb1 lc _ lc1 _ _ φb hkb _ _ _ φd ld usd kd hld hPd hkd hfd hnd De _ Fe Ne le1
  have m2 : (D2, tupOf [.int (((T.bvs ++ [Value.str y ty]).length : Int) - 1) _, .int 0 _, .int (y.length : Int) _] _) ∈ (De, listOf (usa ++ [Value.ref D2] ++ usd).toArray 0) :: φd := mem_tl (hkd.sub _ (hkb.sub _ (mem_tl (mem_tl (hka.sub _ mem_hd)))))
  have hPe := ((show Pcs ((De, listOf (usa ++ [Value.ref D2] ++ usd).toArray 0) :: φd) usa (cutP S.pieces 0 at') from by walk_at "my_pcs").append (.cons m2 .nil)).append (show Pcs ((De, listOf (usa ++ [Value.ref D2] ++ usd).toArray 0) :: φd) usd (cutP S.pieces at' (lenP S.pieces)) from by walk_at "my_pcs")
  rw [e1] at hPe
  have Xd : Tx φd _ _ := X₂.sub fun p hp => hkd.sub _ (hkb.sub _ (mem_tl (mem_tl (hka.sub _ (mem_tl hp)))))
  have hne : De ∉ TA.own _ := notOwn Xd le1
  repeat' walk1
  rename Fr _ _ _ _ => F₉
  rename News _ _ _ _ => N₉
  rename (∃ T' : TA, _) => hX
  obtain ⟨T', XT, hfr⟩ := hX
  exact BodyEnd.next F₉ N₉ ⟨rfl, T', XT, frame_from (k₂.more fun p hp => mem_tl (hkd.sub _ (hkb.sub _ (mem_tl (mem_tl (hka.sub _ (mem_tl hp))))))) (Xd.sub fun _ h => mem_tl h) rfl rfl hfr⟩

theorem off_Delete : True := by w_top off; exact trivial
def delP (S : TState) (b e : Int) : List P3 := cutP S.pieces 0 b ++ cutP S.pieces e (lenP S.pieces)
set_option maxHeartbeats 1500000 in
theorem delete_spec {φ : Led} {T : TA} {S : TState} {x : Addr} {begin fin : Int} {tb te : Tok}
    (X₀ : Tx φ T S) (hex : x = T.x) (h0 : 0 ≤ begin) (h1 : begin < fin) (h2 : fin ≤ lenP S.pieces) (hz : T.pvs.length ≤ 100) (hz3 : S.past.length ≤ 1000) :
    Spec 96 [.ref x, .int begin tb, .int fin te] 4 φ (fun r ψ => r = .none ∧ ∃ T', Tx ψ T' (S.change (delP S begin fin)) ∧ Frame φ T ψ T') := by
  subst hex
  walk_at "my_fill"
  walk_at "my_enter"
  intro prog w p loose mean mg mb dp un gd outer A₀ base g L s B F X N Tp hdp hun
  k_fold
  obtain ⟨hx, hd, hb, hpl, ha, hf, hB, hPl, hA, hF, d1, d2, d3, d4⟩ := id X₀
  have hz5 : S.pieces.length ≤ 100 := by rw [← hPl.length]; exact hz
  repeat' walk1
  rename_i _ _ φ₁ k₁ _ _ φa la usa ka hla hPa hka hfa hna _ _ φb hkb _ _ _ φd ld usd kd hld hPd hkd hfd hnd De _ Fe Ne le1
  have hPe := (show Pcs ((De, listOf (usa ++ usd).toArray 0) :: φd) usa (cutP S.pieces 0 begin) from by walk_at "my_pcs").append (show Pcs ((De, listOf (usa ++ usd).toArray 0) :: φd) usd (cutP S.pieces fin (lenP S.pieces)) from by walk_at "my_pcs")
  have Xd : Tx φd _ _ := X₀.sub fun p hp => hkd.sub _ (hkb.sub _ (hka.sub _ (k₁.sub _ hp)))
  have hne : De ∉ TA.own _ := notOwn Xd le1
  repeat' walk1
  rename Fr _ _ _ _ => F₉
  rename News _ _ _ _ => N₉
  rename (∃ T' : TA, _) => hX
  obtain ⟨T', XT, hfr⟩ := hX
  exact BodyEnd.next F₉ N₉ ⟨rfl, T', XT, frame_from ((Keep.refl φ T.fp).more fun p hp => mem_tl (hkd.sub _ (hkb.sub _ (hka.sub _ (k₁.sub _ hp))))) (Xd.sub fun _ h => mem_tl h) rfl rfl hfr⟩

theorem kw_39 : True := by
  (k_with "w call ref" => ((with_reducible show wpAny _ _ (call (Value.ref 96) _) _ _ _); (refine' Spec.use (delete_spec ?w_Xt ?w_e ?w_a ?w_b ?w_c ?w_z ?w_z2) ?w_B ?w_F ?w_X ?w_N ?w_T ?w_k ?w_d ?w_u ?_; (case w_B => assumption); (case w_F => k_asm); (case w_X => assumption); (case w_N => k_asm); (case w_T => assumption); (case w_Xt => walk_at "my_tx"); (case w_e => exact rfl); (case w_a => omega); (case w_b => omega); (case w_c => omega); (case w_z => omega); (case w_z2 => omega); (case w_k => exact rfl); (case w_d => omega); (case w_u => omega); intro _ _ _ _ _ _ hr'; obtain ⟨e', _⟩ := hr'; subst e'; (try k_sweep))))
  exact trivial

theorem off_Replace : True := by w_top off; exact trivial
def repP (S : TState) (b e : Int) (y : Str) : List P3 := cutP S.pieces 0 b ++ [((S.bufs.length : Int), 0, (y.length : Int))] ++ cutP S.pieces e (lenP S.pieces)
def repS (S : TState) (b e : Int) (y : Str) : TState := if tx y = [] then S.change (delP S b e) else ({ S with bufs := S.bufs ++ [y] } : TState).change (repP S b e y)
set_option maxHeartbeats 1500000 in
theorem replace_spec {φ : Led} {T : TA} {S : TState} {x : Addr} {begin fin : Int} {y : Str} {tb te ty : Tok}
    (X₀ : Tx φ T S) (hex : x = T.x) (h0 : 0 ≤ begin) (h1 : begin < fin) (h2 : fin ≤ lenP S.pieces) (hz : T.pvs.length ≤ 100) (hz2 : S.bufs.length ≤ 1000) (hz3 : S.past.length ≤ 1000) (hyl : y.length ≤ 1000)  :
    Spec 103 [.ref x, .int begin tb, .int fin te, .str y ty] 5 φ (fun r ψ => r = .none ∧ ∃ T', Tx ψ T' (repS S begin fin y) ∧ Frame φ T ψ T') := by
  subst hex
  walk_at "my_fill"
  walk_at "my_enter"
  intro prog w p loose mean mg mb dp un gd outer A₀ base g L s B F X N Tp hdp hun
  k_fold
  obtain ⟨hx, hd, hb, hpl, ha, hf, hB, hPl, hA, hF, d1, d2, d3, d4⟩ := id X₀
  have hz5 : S.pieces.length ≤ 100 := by rw [← hPl.length]; exact hz
  have hzb : T.bvs.length ≤ 1000 := by rw [strs_length hB]; exact hz2
  iterate 13 walk1
  rename Keep _ _ _ => k₁
  rename News _ _ _ _ => N₀
  have U₁ := uniq_of N₀
  have X₁ := X₀.sub k₁.sub
  repeat' walk1
  · exfalso; omega
  · rename (_ = true) => hc
    rename Fr _ _ _ _ => F₉
    rename News _ _ _ _ => N₉
    rename (∃ T' : TA, _) => hX
    obtain ⟨T', XT, hfr⟩ := hX
    have hy : tx y = [] := by rw [eq_of_beq hc]; decide +kernel
    refine BodyEnd.next F₉ N₉ ⟨rfl, T', ?_, frame_from ((Keep.refl φ T.fp).more fun p hp => k₁.sub _ hp) X₁ rfl rfl hfr⟩
    unfold repS
    rw [if_pos hy]
    exact XT
  rename (_ = false) => hc
  have hy : tx y ≠ [] := fun e => by
    have : y = Str.ofString "" := tx_inj (by rw [e]; decide +kernel)
    rw [this] at hc
    simp at hc
  rename Fr _ _ _ _ => F₁
  rename News _ _ _ _ => N₁
  have X₂ := X₁.pushBuf U₁ y ty
  have k₂ : Keep φ T.fp (put T.bl (listOf (T.bvs ++ [Value.str y ty]).toArray (T.nb + 1)) _) := (fun p hp hn => put_of (k₁.sub _ hp) fun e => hn (by rw [e]; simp [TA.fp]))
  generalize put T.bl (listOf (T.bvs ++ [Value.str y ty]).toArray (T.nb + 1)) _ = φ₂ at *
  obtain ⟨hx2, hd2, hb2, hpl2, -, -, -, hPl2, -, -, -, -, -, -⟩ := id X₂
  clear hx hd hb hpl ha hf hPl hA hF X₁ k₁ U₁
  dsimp only at hx2 hd2 hb2 hpl2 hPl2
  have hz4 : (T.bvs ++ [Value.str y ty]).length ≤ 2000 := by rw [List.length_append, List.length_singleton]; omega
  have e1 : (((T.bvs ++ [Value.str y ty]).length : Int) - 1) = (S.bufs.length : Int) := by rw [List.length_append, List.length_singleton, strs_length hB]; omega
  repeat' walk1
  rename_i D2 _ l2 _ _ _ φa la usa ka hla hPa hka hfa hna lb _ lb1 lc _ lc1 _ _ φb hkb _ _ _ φd ld usd kd hld hPd hkd hfd hnd De _ Fe Ne le1
  have m2 : (D2, tupOf [.int (((T.bvs ++ [Value.str y ty]).length : Int) - 1) _, .int 0 _, .int (y.length : Int) _] _) ∈ (De, listOf (usa ++ [Value.ref D2] ++ usd).toArray 0) :: φd := mem_tl (hkd.sub _ (hkb.sub _ (mem_tl (mem_tl (hka.sub _ mem_hd)))))
  have hPe := ((show Pcs ((De, listOf (usa ++ [Value.ref D2] ++ usd).toArray 0) :: φd) usa (cutP S.pieces 0 begin) from by walk_at "my_pcs").append (.cons m2 .nil)).append (show Pcs ((De, listOf (usa ++ [Value.ref D2] ++ usd).toArray 0) :: φd) usd (cutP S.pieces fin (lenP S.pieces)) from by walk_at "my_pcs")
  rw [e1] at hPe
  have Xd : Tx φd _ _ := X₂.sub fun p hp => hkd.sub _ (hkb.sub _ (mem_tl (mem_tl (hka.sub _ (mem_tl hp)))))
  have hne : De ∉ TA.own _ := notOwn Xd le1
  repeat' walk1
  rename Fr _ _ _ _ => F₉
  rename News _ _ _ _ => N₉
  rename (∃ T' : TA, _) => hX
  obtain ⟨T', XT, hfr⟩ := hX
  refine BodyEnd.next F₉ N₉ ⟨rfl, T', ?_, frame_from (k₂.more fun p hp => mem_tl (hkd.sub _ (hkb.sub _ (mem_tl (mem_tl (hka.sub _ (mem_tl hp))))))) (Xd.sub fun _ h => mem_tl h) rfl rfl hfr⟩
  unfold repS
  rw [if_neg hy]
  exact XT

theorem off_Undo : True := by w_top off; exact trivial
def TState.undo (S : TState) (pss : List (List P3)) (ps : List P3) : TState := { S with past := pss, future := S.future ++ [S.pieces], pieces := ps }
def TState.redo (S : TState) (pss : List (List P3)) (ps : List P3) : TState := { S with past := S.past ++ [S.pieces], future := pss, pieces := ps }
set_option maxHeartbeats 1500000 in
theorem undo_spec {φ : Led} {T : TA} {S : TState} {x : Addr} {pss : List (List P3)} {ps : List P3}
    (X₀ : Tx φ T S) (hex : x = T.x) (hS : S.past = pss ++ [ps]) (hz2 : S.future.length ≤ 1000) (hz3 : S.past.length ≤ 1000) :
    Spec 124 [.ref x] 2 φ (fun r ψ => r = .bool true ∧ ∃ T', Tx ψ T' (S.undo pss ps) ∧ Frame φ T ψ T') := by
  subst hex
  walk_at "my_fill"
  walk_at "my_enter"
  intro prog w p loose mean mg mb dp un gd outer A₀ base g L s B F X N Tp hdp hun
  k_fold
  obtain ⟨hx, hd, hb, hpl, ha, hf, hB, hPl, hA, hF, d1, d2, d3, d4⟩ := id X₀
  have hav : T.avs.length = pss.length + 1 := by rw [hA.length, hS, List.length_append, List.length_singleton]
  have hzf : T.fvs.length ≤ 1000 := by rw [hF.length]; exact hz2
  have hza : T.avs.length ≤ 1000 := by rw [hA.length]; exact hz3
  have U := uniq_of N
  iterate 16 walk1
  · exfalso; omega
  iterate 16 walk1
  rename Fr _ _ _ _ => F₁
  rename News _ _ _ _ => N₁
  have X₁ := X₀.pushFuture U hpl d4 hPl
  have U₁ := uniq_of N₁
  have k₁ : Keep φ T.fp (put T.fl (listOf (T.fvs ++ [Value.ref T.pl]).toArray (T.nf + 1)) φ) := (Keep.refl _ _).put fun p hp hn e => hn (by rw [e]; simp [TA.fp])
  generalize put T.fl (listOf (T.fvs ++ [Value.ref T.pl]).toArray (T.nf + 1)) φ = φ₁ at *
  obtain ⟨us, l, vs, n, eav, X₂, hl, hln, hPl2⟩ := X₁.popPast U₁ hS
  obtain ⟨hx1, hd1, -, -, ha1, -, -, -, -, -, -, -, -, -⟩ := id X₁
  clear hx hd hb hpl ha hf hPl hA hF
  dsimp only at hx1 hd1 ha1 eav
  rw [eav] at ha1 hav hza
  have hzu : us.length ≤ 1000 := by rw [List.length_append] at hza; omega
  repeat' walk1
  rename Fr _ _ _ _ => F₂
  rename News _ _ _ _ => N₂
  have U₂ := uniq_of N₂
  have k₂ : Keep φ₁ T.fp (put T.al (listOf us.toArray (T.na + 1)) φ₁) := (Keep.refl _ _).put fun p hp hn e => hn (by rw [e]; simp [TA.fp])
  dsimp only at X₂ hl hPl2 hln N₂ U₂
  generalize put T.al (listOf us.toArray (T.na + 1)) φ₁ = φ₂ at *
  have X₃ := X₂.setPieces U₂ hl hln hPl2
  obtain ⟨hx2, hd2, -, -, -, -, -, -, -, -, -, -, -, -⟩ := id X₂
  clear hx1 hd1 ha1
  dsimp only at hx2 hd2
  repeat' walk1
  rename Fr _ _ _ _ => F₉
  rename News _ _ _ _ => N₉
  refine BodyEnd.ret F₉ N₉ ⟨rfl, _, X₃, rfl, ?_, ?_⟩
  · refine Keep.put (k₁.trans k₂) fun p hp hn e => hn (by rw [e]; simp [TA.fp])
  · intro b hb
    exact .inl hb

theorem off_Redo : True := by w_top off; exact trivial
set_option maxHeartbeats 1500000 in
theorem redo_spec {φ : Led} {T : TA} {S : TState} {x : Addr} {pss : List (List P3)} {ps : List P3}
    (X₀ : Tx φ T S) (hex : x = T.x) (hS : S.future = pss ++ [ps]) (hz2 : S.future.length ≤ 1000) (hz3 : S.past.length ≤ 1000) :
    Spec 131 [.ref x] 2 φ (fun r ψ => r = .bool true ∧ ∃ T', Tx ψ T' (S.redo pss ps) ∧ Frame φ T ψ T') := by
  subst hex
  walk_at "my_fill"
  walk_at "my_enter"
  intro prog w p loose mean mg mb dp un gd outer A₀ base g L s B F X N Tp hdp hun
  k_fold
  obtain ⟨hx, hd, hb, hpl, ha, hf, hB, hPl, hA, hF, d1, d2, d3, d4⟩ := id X₀
  have hav : T.fvs.length = pss.length + 1 := by rw [hF.length, hS, List.length_append, List.length_singleton]
  have hzf : T.fvs.length ≤ 1000 := by rw [hF.length]; exact hz2
  have hza : T.avs.length ≤ 1000 := by rw [hA.length]; exact hz3
  have U := uniq_of N
  iterate 16 walk1
  · exfalso; omega
  iterate 16 walk1
  rename Fr _ _ _ _ => F₁
  rename News _ _ _ _ => N₁
  have X₁ := X₀.pushPast U hpl d4 hPl
  have U₁ := uniq_of N₁
  have k₁ : Keep φ T.fp (put T.al (listOf (T.avs ++ [Value.ref T.pl]).toArray (T.na + 1)) φ) := (Keep.refl _ _).put fun p hp hn e => hn (by rw [e]; simp [TA.fp])
  generalize put T.al (listOf (T.avs ++ [Value.ref T.pl]).toArray (T.na + 1)) φ = φ₁ at *
  obtain ⟨us, l, vs, n, eav, X₂, hl, hln, hPl2⟩ := X₁.popFuture U₁ hS
  obtain ⟨hx1, hd1, -, -, -, ha1, -, -, -, -, -, -, -, -⟩ := id X₁
  clear hx hd hb hpl ha hf hPl hA hF
  dsimp only at hx1 hd1 ha1 eav
  rw [eav] at ha1 hav hzf
  have hzu : us.length ≤ 1000 := by rw [List.length_append] at hzf; omega
  repeat' walk1
  rename Fr _ _ _ _ => F₂
  rename News _ _ _ _ => N₂
  have U₂ := uniq_of N₂
  have k₂ : Keep φ₁ T.fp (put T.fl (listOf us.toArray (T.nf + 1)) φ₁) := (Keep.refl _ _).put fun p hp hn e => hn (by rw [e]; simp [TA.fp])
  dsimp only at X₂ hl hPl2 hln N₂ U₂
  generalize put T.fl (listOf us.toArray (T.nf + 1)) φ₁ = φ₂ at *
  have X₃ := X₂.setPieces U₂ hl hln hPl2
  obtain ⟨hx2, hd2, -, -, -, -, -, -, -, -, -, -, -, -⟩ := id X₂
  clear hx1 hd1 ha1
  dsimp only at hx2 hd2
  repeat' walk1
  rename Fr _ _ _ _ => F₉
  rename News _ _ _ _ => N₉
  refine BodyEnd.ret F₉ N₉ ⟨rfl, _, X₃, rfl, ?_, ?_⟩
  · refine Keep.put (k₁.trans k₂) fun p hp hn e => hn (by rw [e]; simp [TA.fp])
  · intro b hb
    exact .inl hb

set_option maxHeartbeats 1500000 in
theorem redo_none_spec {φ : Led} {T : TA} {S : TState} {x : Addr}
    (X₀ : Tx φ T S) (hex : x = T.x) (hS : S.future = []) :
    Spec 131 [.ref x] 2 φ (fun r ψ => r = .bool false ∧ Keep φ [] ψ) := by
  subst hex
  walk_at "my_fill"
  walk_at "my_enter"
  intro prog w p loose mean mg mb dp un gd outer A₀ base g L s B F X N Tp hdp hun
  k_fold
  obtain ⟨hx, hd, hb, hpl, ha, hf, hB, hPl, hA, hF, d1, d2, d3, d4⟩ := id X₀
  have hav : T.fvs.length = 0 := by rw [hF.length, hS]; rfl
  iterate 16 walk1
  · repeat' walk1
    rename Fr _ _ _ _ => F₉
    rename News _ _ _ _ => N₉
    exact BodyEnd.ret F₉ N₉ ⟨rfl, Keep.refl _ _⟩
  · exfalso; omega

theorem off_Loops : True := by w_top off; exact trivial
section
variable {prog : Program} {w : World} {A : Around} {E : Value → Shared → Prop} {s : Shared} {env : Env} {h₀ : Heap}
/-- a for over a range by ones -/
theorem iter_range {Q : Flow → Shared → Prop} {x : Str} {px : Pos} {body : List Stmt} {r : Addr} {a b : Int} {ta tb tc : Tok} {n : Nat} {m : Str → Option Value} {φ : Led}
    (R : Nat → (Str → Option Value) → Led → Prop) (hh : A.handled = none) (hr : IsRange s.heap r a b 1 ta tb tc) (hsmall : Builtin.Range.small a b 1 = true) (hn : Builtin.Range.rangeSize a b 1 = (n : Int)) (F : Fr h₀ env.locals s.heap m) (N : News h₀ env.locals s.heap φ) (h0 : R 0 m φ)
    (hmono : ∀ i m ψ ψ', (∀ p ∈ ψ, (good p.2 = true ∨ p ∈ φ) → p ∈ ψ') → R i m ψ → R i m ψ')
    (turn : ∀ i t m₁ ψ I Io h tk, i < n → R i m₁ ψ → (∀ p ∈ φ, p.1 ≠ I) → (∀ p ∈ ψ, p.1 ≠ I) → Fr h₀ env.locals h m₁ → News h₀ env.locals h ((I, Io) :: ψ) →
      wpAny (model prog w) A (assign (.Name x px) env (.int (a + (i : Int)) t)) (fun _ s₂ => wpAny (model prog w) A (execs body env) (TurnEnd h₀ env.locals I Io (R (i + 1)) { s with heap := h, toks := tk } Q) (fun _ _ => False) s₂) (fun _ _ => False) { s with heap := h, toks := tk })
    (done : ∀ m₁ ψ h tk, R n m₁ ψ → Fr h₀ env.locals h m₁ → News h₀ env.locals h ψ → Q .next { s with heap := h, toks := tk }) :
    wpAny (model prog w) A (pyIter (.ref r)) (fun it s₂ => codeAny (model prog w) A (.forLoop (.Name x px) it body [] env) (fun r s' => match r with | .ok f => Q f s' | .error e => cameBackBy (model prog w) A env E e s') s₂) E s := by
  obtain ⟨f1, f2, f3⟩ := fresh_of F N
  refine wpAny_pyIter_range hr hsmall ?_
  have W : Walks prog w A s.heap.objs.size [s.heap.objs.size] [s.heap.objs.size] n (fun i v => i < n ∧ ∃ t, v = .int (a + i * 1) t)
      (fun i h => IsRangeIter h s.heap.objs.size (a + (i : Nat) * 1) ((n : Int) - (i : Nat)) 1) := (Walks.range hh _ a 1 n).bound
  refine loop_walk (h₀ := h₀) (Q := Q) R W ?_ ?_ f1 f2 f3 (by show IsRangeIter _ _ _ _ _; rw [hn]; simpa using Heap.get?_push_size _ rfl) (F.push _) (fun p hp => ⟨Heap.get?_push_of_some _ (N p hp).1, (N p hp).2⟩) h0 hmono ?_ ?_ (fun _ _ x => x) (fun _ _ _ _ _ _ _ hq => go_name hq)
  · intro b hb
    exact .inl (List.mem_singleton.mp hb)
  · rintro i h ho
    exact ⟨_, ho, rfl⟩
  · rintro i v m₁ ψ Io h tk hlt ⟨_, t, rfl⟩ hR hψ F₁ N₁
    have e1 : a + (i : Int) * 1 = a + (i : Int) := by omega
    rw [e1]
    exact turn i t m₁ ψ _ Io h tk hlt hR f3 hψ F₁ N₁
  · intro m₁ ψ h tk hR F₁ N₁
    exact done m₁ ψ h tk hR F₁ N₁
/-- a for over a text's signs -/
theorem iter_str {Q : Flow → Shared → Prop} {x : Str} {px : Pos} {body : List Stmt} {y : Str} {ty : Tok} {m : Str → Option Value} {φ : Led}
    (R : Nat → (Str → Option Value) → Led → Prop) (hh : A.handled = none) (F : Fr h₀ env.locals s.heap m) (N : News h₀ env.locals s.heap φ) (h0 : R 0 m φ)
    (hmono : ∀ i m ψ ψ', (∀ p ∈ ψ, (good p.2 = true ∨ p ∈ φ) → p ∈ ψ') → R i m ψ → R i m ψ')
    (turn : ∀ i c t m₁ ψ I Io h tk, (tx y)[i]? = some c → R i m₁ ψ → (∀ p ∈ φ, p.1 ≠ I) → (∀ p ∈ ψ, p.1 ≠ I) → Fr h₀ env.locals h m₁ → News h₀ env.locals h ((I, Io) :: ψ) →
      wpAny (model prog w) A (assign (.Name x px) env (.str ⟨#[c]⟩ t)) (fun _ s₂ => wpAny (model prog w) A (execs body env) (TurnEnd h₀ env.locals I Io (R (i + 1)) { s with heap := h, toks := tk } Q) (fun _ _ => False) s₂) (fun _ _ => False) { s with heap := h, toks := tk })
    (done : ∀ m₁ ψ h tk, R (tx y).length m₁ ψ → Fr h₀ env.locals h m₁ → News h₀ env.locals h ψ → Q .next { s with heap := h, toks := tk }) :
    wpAny (model prog w) A (pyIter (.str y ty)) (fun it s₂ => codeAny (model prog w) A (.forLoop (.Name x px) it body [] env) (fun r s' => match r with | .ok f => Q f s' | .error e => cameBackBy (model prog w) A env E e s') s₂) E s := by
  obtain ⟨f1, f2, f3⟩ := fresh_of F N
  have hlen : (tx y).length = y.cps.size := by simp [tx]
  have go : ∀ (T : String) (o : Obj), (∀ (h : Heap) (i : Nat) (o : Obj), h.IsStrIter s.heap.objs.size T y ty i → h.get? s.heap.objs.size = some o → good o = false) → Walks prog w A s.heap.objs.size [s.heap.objs.size] [s.heap.objs.size] y.cps.size (SignAt y) (fun i h => h.IsStrIter s.heap.objs.size T y ty i) →
      (s.heap.push o).IsStrIter s.heap.objs.size T y ty 0 → codeAny (model prog w) A (.forLoop (.Name x px) (.ref s.heap.objs.size) body [] env) (fun r s' => match r with | .ok f => Q f s' | .error e => cameBackBy (model prog w) A env E e s') { s with heap := s.heap.push o } := by
    intro T o hgd W hst
    refine loop_walk (h₀ := h₀) (Q := Q) R W ?_ ?_ f1 f2 f3 hst (F.push _) (fun p hp => ⟨Heap.get?_push_of_some _ (N p hp).1, (N p hp).2⟩) h0 hmono ?_ ?_ (fun _ _ x => x) (fun _ _ _ _ _ _ _ hq => go_name hq)
    · intro b hb
      exact .inl (List.mem_singleton.mp hb)
    · rintro i h ho
      have ho' := ho
      obtain ⟨o', ho1, _⟩ := ho
      exact ⟨o', ho1, hgd _ _ _ ho' ho1⟩
    · rintro i v m₁ ψ Io h tk hlt ⟨c, t, hc, rfl⟩ hR hψ F₁ N₁
      exact turn i c t m₁ ψ _ Io h tk (by simpa [tx] using hc) hR f3 hψ F₁ N₁
    · intro m₁ ψ h tk hR F₁ N₁
      rw [← hlen] at hR
      exact done m₁ ψ h tk hR F₁ N₁
  have hg : ∀ (T : String), (T == "list" || T == "tuple" || T == "dict") = false → ∀ (h : Heap) (i : Nat) (o : Obj), Heap.IsStrIter h s.heap.objs.size T y ty i → h.get? s.heap.objs.size = some o → good o = false := by
    rintro T hT h i o ⟨o', ho, hc, hd⟩ ho2
    rw [ho] at ho2
    cases ho2
    unfold good; rw [hc, hd]
    dsimp only
    rw [hT]; rfl
  cases ha : y.cps.all (· < 128)
  · exact wpAny_pyIter_wide ha (go "str_iterator" _ (hg _ (by decide)) (Walks.strWide hh _ y ty) ⟨_, Heap.get?_push_size _ rfl, rfl, rfl⟩)
  · exact wpAny_pyIter_ascii ha (go "str_ascii_iterator" _ (hg _ (by decide)) (Walks.strAscii hh _ y ty) ⟨_, Heap.get?_push_size _ rfl, rfl, rfl⟩)
end
section
variable {prog : Program} {w : World} {A : Around} {E : Value → Shared → Prop} {s : Shared} {name : Str} {scope : Scope} {L a : Addr} {cd : Value} {h₀ : Heap} {m : Str → Option Value} {φ : Led}
theorem assign1 {x : Str} {p1 : Pos} {v : Value} {Q : Unit → Shared → Prop} (F : Fr h₀ L s.heap m) (N : News h₀ L s.heap φ)
    (h : ∀ h' tk, Fr h₀ L h' (fun q => if q = x then some v else m q) → News h₀ L h' φ → Q () { s with heap := h', toks := tk })
    (hk : scope.kind = .function := by rfl) (h1 : (envOf name scope L a cd).kindOf x = some .local := by rfl) :
    wpAny (model prog w) A (assign (.Name x p1) (envOf name scope L a cd) v) Q E s :=
  wpAny_assign_Name (stN F N (fun h₁ F₁ N₁ => h _ _ F₁ N₁) hk h1)
end
theorem take_succ {α : Type} {l : List α} {i : Nat} {c : α} (h : l[i]? = some c) : l.take (i + 1) = l.take i ++ [c] := by
  rw [List.take_add_one, h]; rfl
theorem lt_of_get {α : Type} {l : List α} {i : Nat} {c : α} (h : l[i]? = some c) : i < l.length := by
  rcases Nat.lt_or_ge i l.length with h' | h'
  · exact h'
  · rw [List.getElem?_eq_none h'] at h; cases h
theorem range_small {a b : Int} (h1 : -100000 ≤ a) (h2 : a ≤ 100000) (h3 : -100000 ≤ b) (h4 : b ≤ 100000) : Builtin.Range.small a b 1 = true := small_one (by omega) (by omega) (by omega) (by omega)

theorem off_TV : True := by w_top off; exact trivial
structure Hist where
  past : List (List Nat)
  cur : List Nat
  future : List (List Nat)
abbrev allOk (bufs : List Str) (ps : List P3) : Prop := ∀ q ∈ ps, okP bufs q
structure Wf (S : TState) (H : Hist) (nb : Nat) : Prop where
  okc : allOk S.bufs S.pieces
  okp : ∀ ps ∈ S.past, allOk S.bufs ps
  okf : ∀ ps ∈ S.future, allOk S.bufs ps
  hbl : ∀ y ∈ S.bufs, y.length ≤ 1000
  hb : S.bufs.length ≤ nb
  cur : val S.bufs S.pieces = H.cur
  past : S.past.map (val S.bufs) = H.past
  fut : S.future.map (val S.bufs) = H.future
structure TV (φ : Led) (T : TA) (H : Hist) (nb : Nat) : Prop where
  ex : ∃ S, Tx φ T S ∧ Wf S H nb

theorem Spec.weaken {f : Addr} {args : List Value} {need : Nat} {φ : Led} {Post Post' : Value → Led → Prop} (sp : Spec f args need φ Post) (h : ∀ r ψ, Post r ψ → Post' r ψ) : Spec f args need φ Post' := by
  intro prog w p loose mean mg mb dp un gd cn cs a ccd cl outer A₀ base h₀ L m s Q E B F X N T hk hd hu hr
  exact sp.use B F X N T hk hd hu fun r h' tk φ' F' N' hp => hr r h' tk φ' F' N' (h r φ' hp)
theorem TV.sub {φ ψ : Led} {T : TA} {H : Hist} {nb : Nat} (V : TV φ T H nb) (hs : ∀ p ∈ φ, p ∈ ψ) : TV ψ T H nb := by
  obtain ⟨S, X, W⟩ := V.ex
  exact ⟨S, X.sub hs, W⟩
theorem TV.mono {φ ψ : Led} {T : TA} {H : Hist} {nb : Nat} (V : TV φ T H nb) (hs : ∀ p ∈ φ, good p.2 = true → p ∈ ψ) : TV ψ T H nb := by
  obtain ⟨S, X, W⟩ := V.ex
  exact ⟨S, X.mono hs, W⟩
theorem TV.le {φ : Led} {T : TA} {H : Hist} {nb nb' : Nat} (V : TV φ T H nb) (h : nb ≤ nb') : TV φ T H nb' := by
  obtain ⟨S, X, W⟩ := V.ex
  exact ⟨S, X, { W with hb := Nat.le_trans W.hb h }⟩
theorem Wf.lenP {S : TState} {H : Hist} {nb : Nat} (W : Wf S H nb) : lenP S.pieces = (H.cur.length : Int) := by rw [← W.cur, val_len W.okc]
theorem Wf.count {S : TState} {H : Hist} {nb : Nat} (W : Wf S H nb) : S.pieces.length ≤ H.cur.length := by rw [← W.cur]; exact len_le W.okc
theorem Wf.npast {S : TState} {H : Hist} {nb : Nat} (W : Wf S H nb) : S.past.length = H.past.length := by rw [← W.past, List.length_map]
theorem Wf.nfut {S : TState} {H : Hist} {nb : Nat} (W : Wf S H nb) : S.future.length = H.future.length := by rw [← W.fut, List.length_map]
theorem bufAt_le {bufs : List Str} (h : ∀ y ∈ bufs, y.length ≤ 1000) (b : Int) : (bufAt bufs b).length ≤ 1000 := by
  unfold bufAt
  rw [List.getD_eq_getElem?_getD]
  rcases Nat.lt_or_ge b.toNat bufs.length with hlt | hge
  · rw [List.getElem?_eq_getElem hlt]
    exact h _ (List.getElem_mem hlt)
  · rw [List.getElem?_eq_none hge]
    exact Nat.zero_le _
theorem piece_sum {bufs : List Str} (ps : List P3) : ((ps.map (pieceText bufs)).map (·.length)).sum = (val bufs ps).length := by
  unfold val
  rw [List.length_flatten, List.map_map, List.map_map]
  refine congrArg List.sum (List.map_congr_left fun q _ => ?_)
  show (pieceText bufs q).length = (tx (pieceText bufs q)).length
  rw [tx_len]
theorem tx_read {bufs : List Str} (ps : List P3) : tx (Txt.join (Str.ofString "") (ps.map (pieceText bufs))) = val bufs ps := by
  rw [tx_join, List.map_map]
  rfl

theorem length_tv {φ : Led} {T : TA} {H : Hist} {nb : Nat} {x : Addr} (V : TV φ T H nb) (hx : x = T.x) :
    Spec 68 [.ref x] 1 φ (fun r ψ => (∃ t, r = .int (H.cur.length : Int) t) ∧ Keep φ [] ψ) := by
  obtain ⟨S, X, W⟩ := V.ex
  subst hx
  refine (length_spec X.hx X.hd X.hp X.hP).weaken fun r ψ h => ?_
  rw [W.lenP] at h
  exact h
theorem read_tv {φ : Led} {T : TA} {H : Hist} {nb : Nat} {x : Addr} {b e : Int} {tb te : Tok} (V : TV φ T H nb) (hx : x = T.x) (h0 : 0 ≤ b) (h1 : b ≤ e) (h2 : e ≤ H.cur.length) (hz : H.cur.length ≤ 100) (hnb : nb ≤ 1000) :
    Spec 110 [.ref x, .int b tb, .int e te] 3 φ (fun r ψ => (∃ y t, r = .str y t ∧ tx y = (H.cur.drop b.toNat).take (e - b).toNat) ∧ Keep φ [] ψ) := by
  obtain ⟨S, X, W⟩ := V.ex
  have w1 := W.lenP
  have w2 := W.count
  have w3 := W.hb
  have w4 := X.hP.length
  have hv := val_cut (e := e) h0 W.okc
  rw [W.cur] at hv
  have hc := len_le (cutP_ok (b := b) (e := e) W.okc)
  rw [hv, List.length_take, List.length_drop] at hc
  refine (read_spec X hx h0 h1 (by omega) (by omega) (by omega) W.okc (fun b => Nat.le_trans (bufAt_le W.hbl b) (by decide)) (by omega) ?_).weaken fun r ψ h => ?_
  · rw [piece_sum, hv, List.length_take, List.length_drop]; omega
  · obtain ⟨⟨t, rfl⟩, hk⟩ := h
    exact ⟨⟨_, t, rfl, by rw [tx_read, hv]⟩, hk⟩

theorem Wf.push {S : TState} {H : Hist} {nb : Nat} (W : Wf S H nb) {y : Str} (hy : y.length ≤ 1000) : Wf { S with bufs := S.bufs ++ [y] } H (nb + 1) where
  okc := fun q hq => okP_more (W.okc q hq)
  okp := fun ps hp q hq => okP_more (W.okp ps hp q hq)
  okf := fun ps hp q hq => okP_more (W.okf ps hp q hq)
  hbl := fun z hz => (List.mem_append.mp hz).elim (W.hbl z) fun h => by rw [List.mem_singleton.mp h]; exact hy
  hb := by show (S.bufs ++ [y]).length ≤ _; rw [List.length_append, List.length_singleton]; have := W.hb; omega
  cur := by show val (S.bufs ++ [y]) S.pieces = _; rw [val_more W.okc, W.cur]
  past := by
    rw [← W.past]
    exact List.map_congr_left fun ps hp => val_more (W.okp ps hp)
  fut := by
    rw [← W.fut]
    exact List.map_congr_left fun ps hp => val_more (W.okf ps hp)
theorem Wf.change {S : TState} {H : Hist} {nb : Nat} (W : Wf S H nb) {ps : List P3} {v : List Nat} (hok : allOk S.bufs ps) (hv : val S.bufs ps = v) : Wf (S.change ps) { past := H.past ++ [H.cur], cur := v, future := [] } nb where
  okc := joined_ok hok
  okp := fun qs hq => (List.mem_append.mp hq).elim (W.okp qs) fun h => by rw [List.mem_singleton.mp h]; exact W.okc
  okf := fun _ h => nomatch h
  hbl := W.hbl
  hb := W.hb
  cur := by show val S.bufs (joinP ps) = v; rw [val_joined hok, hv]
  past := by
    show (S.past ++ [S.pieces]).map (val S.bufs) = H.past ++ [H.cur]
    rw [List.map_append, W.past, List.map_singleton]
    show H.past ++ [val S.bufs S.pieces] = _
    rw [W.cur]
  fut := rfl
theorem insert_tv {φ : Led} {T : TA} {H : Hist} {nb : Nat} {x : Addr} {at' : Int} {y : Str} {tb ty : Tok} (V : TV φ T H nb) (hx : x = T.x) (h0 : 0 ≤ at') (h2 : at' ≤ H.cur.length) (hy : tx y ≠ []) (hz : H.cur.length ≤ 100) (hnb : nb ≤ 900) (hp : H.past.length ≤ 900) (hyl : y.length ≤ 1000) :
    Spec 89 [.ref x, .int at' tb, .str y ty] 4 φ (fun r ψ => r = .none ∧ ∃ T', TV ψ T' { past := H.past ++ [H.cur], cur := H.cur.take at'.toNat ++ tx y ++ H.cur.drop at'.toNat, future := [] } (nb + 1) ∧ Frame φ T ψ T') := by
  obtain ⟨S, X, W⟩ := V.ex
  have w1 := W.lenP
  have w2 := W.count
  have w3 := W.hb
  have w4 := X.hP.length
  have w5 := W.npast
  subst hx
  refine (insert_spec X h0 (by omega) hy (by omega) (by omega) (by omega) hyl).weaken fun r ψ h => ?_
  obtain ⟨rfl, T', X', hf⟩ := h
  have W1 := W.push hyl
  have ok1 : allOk (S.bufs ++ [y]) (cutP S.pieces 0 at') := cutP_ok W1.okc
  have ok2 : allOk (S.bufs ++ [y]) (cutP S.pieces at' (lenP S.pieces)) := cutP_ok W1.okc
  refine ⟨rfl, T', ⟨_, X', W1.change ?_ ?_⟩, hf⟩
  · intro q hq
    rcases List.mem_append.mp hq with hq | hq
    · rcases List.mem_append.mp hq with hq | hq
      · exact ok1 q hq
      · rw [List.mem_singleton.mp hq]; exact okP_new hy
    · exact ok2 q hq
  · show val (S.bufs ++ [y]) _ = _
    unfold insP
    have c1 := val_cut (b := 0) (e := at') (by omega) W1.okc
    have c2 := val_cut (b := at') (e := lenP S.pieces) h0 W1.okc
    have e1 := W1.cur
    dsimp only at c1 c2 e1
    rw [val_append, val_append, val_one, ptx_new hy, c1, c2, e1, w1]
    congr 1
    · congr 1
      simp
    · refine List.take_of_length_le ?_
      rw [List.length_drop]; omega
theorem replace_tv {φ : Led} {T : TA} {H : Hist} {nb : Nat} {x : Addr} {b e : Int} {y : Str} {tb te ty : Tok} (V : TV φ T H nb) (hx : x = T.x) (h0 : 0 ≤ b) (h1 : b < e) (h2 : e ≤ H.cur.length) (hz : H.cur.length ≤ 100) (hnb : nb ≤ 900) (hp : H.past.length ≤ 900) (hyl : y.length ≤ 1000) :
    Spec 103 [.ref x, .int b tb, .int e te, .str y ty] 5 φ (fun r ψ => r = .none ∧ ∃ T', TV ψ T' { past := H.past ++ [H.cur], cur := H.cur.take b.toNat ++ tx y ++ H.cur.drop e.toNat, future := [] } (nb + 1) ∧ Frame φ T ψ T') := by
  obtain ⟨S, X, W⟩ := V.ex
  have w1 := W.lenP
  have w2 := W.count
  have w3 := W.hb
  have w4 := X.hP.length
  have w5 := W.npast
  refine (replace_spec X hx h0 h1 (by omega) (by omega) (by omega) (by omega) hyl).weaken fun r ψ h => ?_
  obtain ⟨rfl, T', X', hf⟩ := h
  refine ⟨rfl, T', ⟨_, X', ?_⟩, hf⟩
  unfold repS
  by_cases hy : tx y = []
  · rw [if_pos hy]
    have W2 : Wf S H (nb + 1) := { W with hb := by omega }
    have c1 := val_cut (b := 0) (e := b) (by omega) W.okc
    have c2 := val_cut (b := e) (e := lenP S.pieces) (by omega) W.okc
    refine W2.change ?_ ?_
    · intro q hq
      rcases List.mem_append.mp hq with hq | hq
      · exact cutP_ok W.okc q hq
      · exact cutP_ok W.okc q hq
    · unfold delP
      rw [val_append, c1, c2, W.cur, w1, hy, List.append_nil]
      congr 1
      · simp
      · refine List.take_of_length_le ?_
        rw [List.length_drop]; omega
  · rw [if_neg hy]
    have W1 := W.push hyl
    have ok1 : allOk (S.bufs ++ [y]) (cutP S.pieces 0 b) := cutP_ok W1.okc
    have ok2 : allOk (S.bufs ++ [y]) (cutP S.pieces e (lenP S.pieces)) := cutP_ok W1.okc
    refine W1.change ?_ ?_
    · intro q hq
      rcases List.mem_append.mp hq with hq | hq
      · rcases List.mem_append.mp hq with hq | hq
        · exact ok1 q hq
        · rw [List.mem_singleton.mp hq]; exact okP_new hy
      · exact ok2 q hq
    · show val (S.bufs ++ [y]) _ = _
      unfold repP
      have c1 := val_cut (b := 0) (e := b) (by omega) W1.okc
      have c2 := val_cut (b := e) (e := lenP S.pieces) (by omega) W1.okc
      have e1 := W1.cur
      dsimp only at c1 c2 e1
      rw [val_append, val_append, val_one, ptx_new hy, c1, c2, e1, w1]
      congr 1
      · congr 1
        simp
      · refine List.take_of_length_le ?_
        rw [List.length_drop]; omega
theorem map_last {α β : Type} {f : α → β} {l : List α} {l' : List β} {b : β} (h : l.map f = l' ++ [b]) : ∃ p a, l = p ++ [a] ∧ p.map f = l' ∧ f a = b := by
  rcases List.eq_nil_or_concat l with rfl | ⟨p, a, rfl⟩
  · simp at h
  · rw [List.concat_eq_append, List.map_append, List.map_singleton] at h
    obtain ⟨h1, h2⟩ := List.append_inj' h rfl
    exact ⟨p, a, by rw [List.concat_eq_append], h1, by simpa using h2⟩
theorem undo_tv {φ : Led} {T : TA} {H : Hist} {nb : Nat} {x : Addr} {P : List (List Nat)} {c : List Nat} (V : TV φ T H nb) (hx : x = T.x) (hH : H.past = P ++ [c]) (hp : H.past.length ≤ 900) (hf : H.future.length ≤ 900) :
    Spec 124 [.ref x] 2 φ (fun r ψ => r = .bool true ∧ ∃ T', TV ψ T' { past := P, cur := c, future := H.future ++ [H.cur] } nb ∧ Frame φ T ψ T') := by
  obtain ⟨S, X, W⟩ := V.ex
  have w5 := W.npast
  have w6 := W.nfut
  obtain ⟨pss, ps, e1, e2, e3⟩ := map_last (W.past.trans hH)
  refine (undo_spec X hx e1 (by omega) (by omega)).weaken fun r ψ h => ?_
  obtain ⟨rfl, T', X', hf⟩ := h
  refine ⟨rfl, T', ⟨_, X', ?_⟩, hf⟩
  have hpm : ∀ qs ∈ pss, qs ∈ S.past := fun qs h => by rw [e1]; exact List.mem_append_left _ h
  exact { okc := W.okp ps (by rw [e1]; simp), okp := fun qs h => W.okp qs (hpm qs h), okf := fun qs h => (List.mem_append.mp h).elim (W.okf qs) fun h => by rw [List.mem_singleton.mp h]; exact W.okc, hbl := W.hbl, hb := W.hb, cur := e3, past := e2, fut := by
            show (S.future ++ [S.pieces]).map (val S.bufs) = H.future ++ [H.cur]
            rw [List.map_append, W.fut, List.map_singleton]
            show H.future ++ [val S.bufs S.pieces] = _
            rw [W.cur] }
theorem redo_tv {φ : Led} {T : TA} {H : Hist} {nb : Nat} {x : Addr} {P : List (List Nat)} {c : List Nat} (V : TV φ T H nb) (hx : x = T.x) (hH : H.future = P ++ [c]) (hp : H.past.length ≤ 900) (hf : H.future.length ≤ 900) :
    Spec 131 [.ref x] 2 φ (fun r ψ => r = .bool true ∧ ∃ T', TV ψ T' { past := H.past ++ [H.cur], cur := c, future := P } nb ∧ Frame φ T ψ T') := by
  obtain ⟨S, X, W⟩ := V.ex
  have w5 := W.npast
  have w6 := W.nfut
  obtain ⟨pss, ps, e1, e2, e3⟩ := map_last (W.fut.trans hH)
  refine (redo_spec X hx e1 (by omega) (by omega)).weaken fun r ψ h => ?_
  obtain ⟨rfl, T', X', hf⟩ := h
  refine ⟨rfl, T', ⟨_, X', ?_⟩, hf⟩
  have hpm : ∀ qs ∈ pss, qs ∈ S.future := fun qs h => by rw [e1]; exact List.mem_append_left _ h
  exact { okc := W.okf ps (by rw [e1]; simp), okf := fun qs h => W.okf qs (hpm qs h), okp := fun qs h => (List.mem_append.mp h).elim (W.okp qs) fun h => by rw [List.mem_singleton.mp h]; exact W.okc, hbl := W.hbl, hb := W.hb, cur := e3, fut := e2, past := by
            show (S.past ++ [S.pieces]).map (val S.bufs) = H.past ++ [H.cur]
            rw [List.map_append, W.past, List.map_singleton]
            show H.past ++ [val S.bufs S.pieces] = _
            rw [W.cur] }
theorem redo_none_tv {φ : Led} {T : TA} {H : Hist} {nb : Nat} {x : Addr} (V : TV φ T H nb) (hx : x = T.x) (hH : H.future = []) :
    Spec 131 [.ref x] 2 φ (fun r ψ => r = .bool false ∧ Keep φ [] ψ) := by
  obtain ⟨S, X, W⟩ := V.ex
  exact redo_none_spec X hx (List.map_eq_nil_iff.mp (W.fut.trans hH))
theorem tv_keep {T : TA} {H : Hist} {nb : Nat} {φ ψ : Led} (hm : TV φ T H nb) (h : Keep φ [] ψ) : TV ψ T H nb := hm.sub h.sub
theorem tv_tl {T : TA} {H : Hist} {nb : Nat} {φ : Led} {q : Addr × Obj} (hm : TV φ T H nb) : TV (q :: φ) T H nb := hm.sub fun _ hp => mem_tl hp
theorem frame_x {φ ψ : Led} {T T' : TA} {x : Addr} (h : Frame φ T ψ T') (e : x = T.x) : x = T'.x := e.trans h.1.symm

theorem kw_40 : True := by
  (k_with "my_tv" => first | with_reducible assumption | (refine' tv_keep ?v_m ?v_h; (case v_h => with_reducible assumption); (case v_m => walk_at "my_tv")) | (refine' tv_tl ?v_m; (case v_m => walk_at "my_tv")))
  exact trivial
theorem kw_41 : True := by
  (k_with "my_x" => first | assumption | exact rfl | (refine' frame_x ?x_h ?x_e; (case x_h => with_reducible assumption); (case x_e => walk_at "my_x")))
  exact trivial
theorem kw_42 : True := by
  (k_with "w call ref" => ((with_reducible show wpAny _ _ (call (Value.ref 68) _) _ _ _); (refine' Spec.use (length_tv ?w_V ?w_x) ?w_B ?w_F ?w_X ?w_N ?w_T ?w_k ?w_d ?w_u ?_; (case w_B => assumption); (case w_F => k_asm); (case w_X => assumption); (case w_N => k_asm); (case w_T => assumption); (case w_V => walk_at "my_tv"); (case w_x => walk_at "my_x"); (case w_k => exact rfl); (case w_d => omega); (case w_u => omega); intro _ _ _ _ _ _ hr'; obtain ⟨⟨_, e'⟩, _⟩ := hr'; subst e'; (try k_sweep))))
  exact trivial
theorem kw_43 : True := by
  (k_with "w call ref" => ((with_reducible show wpAny _ _ (call (Value.ref 110) _) _ _ _); (refine' Spec.use (read_tv ?w_V ?w_x ?w_a ?w_b ?w_c ?w_d1 ?w_d2) ?w_B ?w_F ?w_X ?w_N ?w_T ?w_k ?w_d ?w_u ?_; (case w_B => assumption); (case w_F => k_asm); (case w_X => assumption); (case w_N => k_asm); (case w_T => assumption); (case w_V => walk_at "my_tv"); (case w_x => walk_at "my_x"); (case w_a => omega); (case w_b => omega); (case w_c => walk_at "my_om"); (case w_d1 => walk_at "my_om"); (case w_d2 => omega); (case w_k => exact rfl); (case w_d => omega); (case w_u => omega); intro _ _ _ _ _ _ hr'; obtain ⟨⟨_, _, e', _⟩, _⟩ := hr'; subst e'; (try k_sweep))))
  exact trivial

theorem off_Whole : True := by w_top off; exact trivial
set_option maxHeartbeats 1500000 in
theorem whole_tv {φ : Led} {T : TA} {H : Hist} {nb : Nat} {x : Addr} (V : TV φ T H nb) (hx : x = T.x) (hz : H.cur.length ≤ 100) (hnb : nb ≤ 1000) :
    Spec 117 [.ref x] 4 φ (fun r ψ => (∃ y t, r = .str y t ∧ tx y = H.cur) ∧ Keep φ [] ψ) := by
  obtain ⟨S, X₀, W⟩ := id V.ex
  have hd := X₀.hd
  have hxx := X₀.hx
  subst hx
  walk_at "my_fill"
  walk_at "my_enter"
  intro prog w p loose mean mg mb dp un gd outer A₀ base g L s B F X N Tp hdp hun
  k_fold
  repeat' walk1
  rename_i k1 _ _ _ _ F₁ N₁ k2 y t hy
  refine BodyEnd.ret F₁ N₁ ⟨⟨y, t, rfl, ?_⟩, k1.trans k2⟩
  rw [hy]
  simp

theorem kw_44 : True := by
  (k_with "w call ref" => ((with_reducible show wpAny _ _ (call (Value.ref 117) _) _ _ _); (refine' Spec.use (whole_tv ?w_V ?w_x ?w_a ?w_b) ?w_B ?w_F ?w_X ?w_N ?w_T ?w_k ?w_d ?w_u ?_; (case w_B => assumption); (case w_F => k_asm); (case w_X => assumption); (case w_N => k_asm); (case w_T => assumption); (case w_V => walk_at "my_tv"); (case w_x => walk_at "my_x"); (case w_a => walk_at "my_om"); (case w_b => omega); (case w_k => exact rfl); (case w_d => omega); (case w_u => omega); intro _ _ _ _ _ _ hr'; obtain ⟨⟨_, _, e', _⟩, _⟩ := hr'; subst e'; (try k_sweep))))
  exact trivial

theorem off_InsNone : True := by w_top off; exact trivial
set_option maxHeartbeats 1500000 in
theorem insert_none_tv {φ : Led} {T : TA} {H : Hist} {nb : Nat} {x : Addr} {at' : Int} {y : Str} {tb ty : Tok} (V : TV φ T H nb) (hx : x = T.x) (h0 : 0 ≤ at') (h2 : at' ≤ H.cur.length) (hy : tx y = []) :
    Spec 89 [.ref x, .int at' tb, .str y ty] 4 φ (fun r ψ => r = .none ∧ Keep φ [] ψ) := by
  obtain ⟨S, X₀, W⟩ := id V.ex
  have w1 := W.lenP
  have hd := X₀.hd
  have hxx := X₀.hx
  subst hx
  walk_at "my_fill"
  walk_at "my_enter"
  intro prog w p loose mean mg mb dp un gd outer A₀ base g L s B F X N Tp hdp hun
  k_fold
  have hye : y = Str.ofString "" := tx_inj (by rw [hy]; decide +kernel)
  subst hye
  repeat' walk1
  rename Keep _ _ _ => k₁
  rename Fr _ _ _ _ => F₁
  rename News _ _ _ _ => N₁
  exact BodyEnd.next F₁ N₁ ⟨rfl, k₁⟩
theorem frame_keep {φ ψ : Led} {T : TA} (k : Keep φ [] ψ) : Frame φ T ψ T := ⟨rfl, fun p hp _ => k.sub _ hp, fun _ h => .inl h⟩
theorem insert_any {φ : Led} {T : TA} {H : Hist} {nb : Nat} {x : Addr} {at' : Int} {y : Str} {tb ty : Tok} (V : TV φ T H nb) (hx : x = T.x) (h0 : 0 ≤ at') (h2 : at' ≤ H.cur.length) (hz : H.cur.length ≤ 100) (hnb : nb ≤ 900) (hp : H.past.length ≤ 900) (hyl : y.length ≤ 1000) (hf : H.future = []) :
    Spec 89 [.ref x, .int at' tb, .str y ty] 4 φ (fun r ψ => r = .none ∧ ∃ T' H', TV ψ T' H' (nb + 1) ∧ Frame φ T ψ T' ∧ H'.cur = H.cur.take at'.toNat ++ tx y ++ H.cur.drop at'.toNat ∧ H'.past.length ≤ H.past.length + 1 ∧ H'.future = []) := by
  by_cases hy : tx y = []
  · refine (insert_none_tv V hx h0 h2 hy).weaken fun r ψ h => ?_
    refine ⟨h.1, T, H, (V.sub h.2.sub).le (by omega), frame_keep h.2, ?_, by omega, hf⟩
    rw [hy, List.append_nil, List.take_append_drop]
  · refine (insert_tv V hx h0 h2 hy hz hnb hp hyl).weaken fun r ψ h => ?_
    obtain ⟨rfl, T', V', hfr⟩ := h
    exact ⟨rfl, T', _, V', hfr, rfl, by rw [List.length_append]; exact Nat.le_refl _, rfl⟩

theorem off_Lines : True := by w_top off; exact trivial
noncomputable def linesOf : List Nat → Int → List Int
  | [], _ => []
  | c :: r, i => if c = 10 then (i + 1) :: linesOf r (i + 1) else linesOf r (i + 1)
theorem sign_eq {c : Nat} {y : Str} : ((⟨#[c]⟩ : Str) == y) = true ↔ tx y = [c] := by
  rw [beq_iff_eq]
  constructor
  · rintro rfl; rfl
  · intro h
    exact (tx_inj (x := ⟨#[c]⟩) (y := y) (by rw [h])) 
theorem lines_snoc (c : Nat) : ∀ (r : List Nat) (k : Int), linesOf (r ++ [c]) k = linesOf r k ++ (if c = 10 then [k + (r.length : Int) + 1] else [])
  | [], k => by
    show linesOf [c] k = _
    unfold linesOf
    split <;> simp [linesOf]
  | d :: r, k => by
    have ih := lines_snoc c r (k + 1)
    have e : k + 1 + (r.length : Int) + 1 = k + ((d :: r).length : Int) + 1 := by rw [List.length_cons]; omega
    rw [e] at ih
    show linesOf (d :: (r ++ [c])) k = _
    unfold linesOf
    split <;> rw [ih] <;> rfl
set_option maxHeartbeats 1500000 in
theorem lines_tv {φ : Led} {T : TA} {H : Hist} {nb : Nat} {x : Addr} (V : TV φ T H nb) (hx : x = T.x) (hz : H.cur.length ≤ 100) (hnb : nb ≤ 1000) :
    Spec 180 [.ref x] 5 φ (fun r ψ => ∃ l us k, r = .ref l ∧ (l, listOf us.toArray k) ∈ ψ ∧ IntsAre us (0 :: linesOf H.cur 0) ∧ Keep φ [] ψ ∧ ∀ p ∈ φ, p.1 ≠ l) := by
  obtain ⟨S, X₀, W⟩ := id V.ex
  have hd := X₀.hd
  have hxx := X₀.hx
  subst hx
  walk_at "my_fill"
  walk_at "my_enter"
  intro prog w p loose mean mg mb dp un gd outer A₀ base g L s B F X N Tp hdp hun
  k_fold
  repeat' (first | (refine wpAny_For ?_) | walk1)
  rename_i l _ l1 _ _ _ _ φ₂ F' N' k₂ y t hy
  have hfr : ∀ p ∈ φ, p.1 ≠ l := fun p hp => Nat.ne_of_lt (l1 p hp)
  have hl₂ := k₂.sub _ mem_hd
  have hcl : (tx y).length ≤ 100 := by rw [hy]; exact hz
  refine iter_str (fun i m ψ => (∃ t, m (Str.ofString "place") = some (.int (i : Int) t)) ∧ m (Str.ofString "found") = some (.ref l) ∧ Keep φ₂ [l] ψ ∧ ∃ us k, us.length ≤ i + 1 ∧ (l, listOf us.toArray k) ∈ ψ ∧ IntsAre us (0 :: linesOf ((tx y).take i) 0)) rfl F' N' ⟨⟨_, rfl⟩, rfl, Keep.refl _ _, _, _, Nat.le_refl _, hl₂, .cons _ _ .nil⟩ ?_ ?_ ?_
  · rintro i m ψ ψ' hs ⟨h1, h2, h5, us, k, h6, h7, h8⟩
    exact ⟨h1, h2, fun p hp hn => hs p (h5 p hp hn) (.inr hp), us, k, h6, hs _ h7 (.inl rfl), h8⟩
  · rintro i c tc m₁ ψ I Io h tk hc ⟨⟨t₀, h1⟩, h2, h5, us, k, h6, h7, h8⟩ hI hI' F₂ N₂
    have hlt := lt_of_get hc
    rw [take_succ hc, lines_snoc, List.length_take, Nat.min_eq_left (Nat.le_of_lt hlt)]
    have hlI : l ≠ I := hI _ hl₂
    have hus : us.length ≤ 1000 := by omega
    refine assign1 (fr_put2 h1 h2 F₂) N₂ fun h₃ tk₃ F₃ N₃ => ?_
    k_fold
    clear h1 h2 F₂ N₂ F' N'
    repeat' walk1
    · rename (_ = true) => hc1
      rename Fr _ _ _ _ => F₄
      rename News _ _ _ _ => N₄
      rw [sign_eq, show tx (Str.ofString "\n") = [10] by decide +kernel] at hc1
      have hc2 : c = 10 := by simpa [eq_comm] using hc1
      refine ⟨_, _, _, _, rfl, F₄, N₄, put_of mem_hd (Ne.symm hlI), ⟨_, rfl⟩, rfl, Keep.put h5.cons (fun p hp hn e => hn (by rw [e]; exact List.Mem.head _)), _, _, ?_, put_self _ _ _, ?_⟩
      · rw [List.length_append, List.length_singleton]; omega
      · rw [if_pos hc2, ← List.cons_append]
        refine IntsAre.append h8 ?_
        rw [Int.zero_add]
        exact .cons _ _ .nil
    · rename (_ = false) => hc1
      rename Fr _ _ _ _ => F₄
      rename News _ _ _ _ => N₄
      have hc2 : c ≠ 10 := by
        rintro rfl
        have : ((⟨#[10]⟩ : Str) == Str.ofString "\n") = true := by rw [sign_eq]; decide +kernel
        rw [this] at hc1
        cases hc1
      refine ⟨_, _, _, _, rfl, F₄, N₄, mem_hd, ⟨_, rfl⟩, rfl, h5.cons, us, k, by omega, mem_tl h7, ?_⟩
      rw [if_neg hc2, List.append_nil]
      exact h8
  · rintro m₁ ψ h tk ⟨⟨t₀, h1⟩, h2, h5, us, k, h6, h7, h8⟩ F₂ N₂
    have F₃ := fr_put1 h2 F₂
    clear F₂ h2 F' N'
    repeat' walk1
    dsimp only
    rw [List.take_length, hy] at h8
    refine BodyEnd.ret F₃ N₂ ⟨l, us, k, rfl, h7, h8, fun p hp _ => h5 _ (k₂.sub _ (mem_tl hp)) (by simpa using hfr p hp), hfr⟩

theorem off_Kmp : True := by w_top off; exact trivial
theorem lt_get {p : List Nat} {k x : Nat} (h : p[k]? = some x) : k < p.length := by
  rcases Nat.lt_or_ge k p.length with h' | h'
  · exact h'
  · rw [List.getElem?_eq_none h'] at h; cases h
def isSuf (p u : List Nat) (k : Nat) : Prop := k ≤ p.length ∧ p.take k <:+ u
def IsMx (p u : List Nat) (c : Nat) : Prop := isSuf p u c ∧ ∀ k, isSuf p u k → k ≤ c
def LInv (p u : List Nat) (x c : Nat) : Prop := isSuf p u c ∧ ∀ k, isSuf p (u ++ [x]) (k + 1) → k ≤ c
theorem suf_zero {p u : List Nat} : isSuf p u 0 := ⟨Nat.zero_le _, by rw [List.take_zero]; exact List.nil_suffix⟩
theorem suf_snoc {p u : List Nat} {x k : Nat} : isSuf p (u ++ [x]) (k + 1) ↔ p[k]? = some x ∧ isSuf p u k := by
  constructor
  · rintro ⟨h1, h2⟩
    have hk : k < p.length := h1
    rw [List.take_add_one, List.getElem?_eq_getElem hk] at h2
    simp only [Option.toList] at h2
    obtain ⟨t, ht⟩ := h2
    rw [← List.append_assoc] at ht
    obtain ⟨e1, e2⟩ := List.append_inj' ht rfl
    rw [List.getElem?_eq_getElem hk]
    simp only [List.cons.injEq, and_true] at e2
    exact ⟨by rw [e2], Nat.le_of_lt hk, t, e1⟩
  · rintro ⟨h1, h2, t, h3⟩
    have hk : k < p.length := lt_get h1
    refine ⟨hk, t, ?_⟩
    rw [List.take_add_one, h1]
    simp only [Option.toList]
    rw [← List.append_assoc, h3]
theorem suf_within {p u : List Nat} {c k : Nat} (hc : isSuf p u c) (hk : k ≤ c) (h : isSuf p u k) : p.take k <:+ p.take c := by
  refine List.suffix_of_suffix_length_le h.2 hc.2 ?_
  rw [List.length_take, List.length_take]
  omega
theorem border_of {p : List Nat} {c k : Nat} (hc : c ≤ p.length) (hk : k < c) (h : p.take k <:+ p.take c) : p.take k <:+ (p.take c).drop 1 := by
  refine List.suffix_of_suffix_length_le h (List.drop_suffix 1 _) ?_
  rw [List.length_drop, List.length_take, List.length_take]
  omega
theorem linv_start {p u : List Nat} {x c : Nat} (h : IsMx p u c) : LInv p u x c := ⟨h.1, fun k hk => h.2 k (suf_snoc.mp hk).2⟩
theorem linv_step {p u : List Nat} {x c r : Nat} (h : LInv p u x c) (hc : 0 < c) (hx : p[c]? ≠ some x) (hr : IsMx p ((p.take c).drop 1) r) : LInv p u x r ∧ r < c := by
  obtain ⟨h1, h2⟩ := h
  refine ⟨⟨⟨hr.1.1, hr.1.2.trans ((List.drop_suffix 1 _).trans h1.2)⟩, fun k hk => ?_⟩, ?_⟩
  · have hkc := h2 k hk
    obtain ⟨e1, e2⟩ := suf_snoc.mp hk
    have hne : k ≠ c := fun e => hx (by rw [← e]; exact e1)
    exact hr.2 k ⟨e2.1, border_of h1.1 (by omega) (suf_within h1 hkc e2)⟩
  · have := hr.1.2.length_le
    rw [List.length_drop, List.length_take, List.length_take] at this
    have h3 := hr.1.1
    have h4 := h1.1
    omega
theorem linv_hit {p u : List Nat} {x c : Nat} (h : LInv p u x c) (hx : p[c]? = some x) : IsMx p (u ++ [x]) (c + 1) := by
  refine ⟨suf_snoc.mpr ⟨hx, h.1⟩, fun k hk => ?_⟩
  cases k with
  | zero => exact Nat.zero_le _
  | succ k => exact Nat.succ_le_succ (h.2 k hk)
theorem linv_miss {p u : List Nat} {x : Nat} (h : LInv p u x 0) (hx : p[0]? ≠ some x) : IsMx p (u ++ [x]) 0 := by
  refine ⟨suf_zero, fun k hk => ?_⟩
  cases k with
  | zero => exact Nat.le_refl _
  | succ k =>
    have := h.2 k hk
    obtain ⟨e1, _⟩ := suf_snoc.mp hk
    have : k = 0 := by omega
    rw [this] at e1
    exact absurd e1 hx
theorem mx_nil {p : List Nat} : IsMx p [] 0 := ⟨suf_zero, fun k hk => by
  have := hk.2.length_le
  rw [List.length_take, List.length_nil] at this
  have := hk.1
  omega⟩
theorem mx_le {p u : List Nat} {c : Nat} (h : IsMx p u c) : c ≤ u.length := by
  have := h.1.2.length_le
  rw [List.length_take] at this
  have := h.1.1
  omega
/-- the rows are right below n -/
def RowsOk (p : List Nat) (rows : List Int) (n : Nat) : Prop := ∀ j, j < n → ∃ c : Nat, rows[j]? = some (c : Int) ∧ IsMx p ((p.take (j + 1)).drop 1) c
theorem rows_one {p : List Nat} {rows : List Int} (h : rows[0]? = some 0) : RowsOk p rows 1 := by
  intro j hj
  have : j = 0 := by omega
  subst this
  refine ⟨0, h, ?_⟩
  have : (p.take (0 + 1)).drop 1 = [] := by rw [← List.length_eq_zero_iff, List.length_drop, List.length_take]; omega
  rw [this]
  exact mx_nil
theorem rows_set {p : List Nat} {rows : List Int} {n c : Nat} (h : RowsOk p rows n) (hn : n < rows.length) (hc : IsMx p ((p.take (n + 1)).drop 1) c) : RowsOk p (rows.set n (c : Int)) (n + 1) := by
  intro j hj
  by_cases e : j = n
  · subst e
    exact ⟨c, by rw [List.getElem?_set_self hn], hc⟩
  · obtain ⟨c', h1, h2⟩ := h j (by omega)
    exact ⟨c', by rw [List.getElem?_set_ne (by omega), h1], h2⟩
theorem take_drop_snoc {p : List Nat} {n x : Nat} (hn : 1 ≤ n) (h : p[n]? = some x) : (p.take (n + 1)).drop 1 = (p.take n).drop 1 ++ [x] := by
  have hl := lt_get h
  rw [List.take_add_one, h]
  simp only [Option.toList]
  rw [List.drop_append_of_le_length]
  rw [List.length_take]; omega

/-- the pattern stands at s -/
def occ (t p : List Nat) (s : Nat) : Prop := (t.drop s).take p.length = p
def First (t p : List Nat) (b : Nat) (r : Int) : Prop := (∃ s : Nat, r = (s : Int) ∧ b ≤ s ∧ occ t p s ∧ ∀ s', b ≤ s' → s' < s → ¬ occ t p s') ∨ (r = -1 ∧ ∀ s', b ≤ s' → ¬ occ t p s')
theorem First.uniq {t p : List Nat} {b : Nat} {r r' : Int} (h : First t p b r) (h' : First t p b r') : r = r' := by
  rcases h with ⟨s, rfl, h1, h2, h3⟩ | ⟨rfl, h1⟩ <;> rcases h' with ⟨s', rfl, h1', h2', h3'⟩ | ⟨rfl, h1'⟩
  · have : s = s' := by
      rcases Nat.lt_trichotomy s s' with h | h | h
      · exact absurd h2 (h3' s h1 h)
      · exact h
      · exact absurd h2' (h3 s' h1' h)
    rw [this]
  · exact absurd h2 (h1' s h1)
  · exact absurd h2' (h1 s' h1')
  · rfl
theorem occ_len {t p : List Nat} {s : Nat} (h : occ t p s) (hp : p ≠ []) : s + p.length ≤ t.length := by
  have := congrArg List.length h
  rw [List.length_take, List.length_drop] at this
  have : 0 < p.length := List.length_pos_iff.mpr hp
  omega
theorem occ_suf {t p : List Nat} {s : Nat} (h : occ t p s) : isSuf p (t.take (s + p.length)) p.length := by
  refine ⟨Nat.le_refl _, t.take s, ?_⟩
  rw [List.take_length, List.take_add]
  congr 1
  exact h.symm
theorem suf_occ {t p : List Nat} {e : Nat} (h : isSuf p (t.take e) p.length) (he : e ≤ t.length) : p.length ≤ e ∧ occ t p (e - p.length) := by
  obtain ⟨_, v, hv⟩ := h
  rw [List.take_length] at hv
  have hl := congrArg List.length hv
  rw [List.length_append, List.length_take, Nat.min_eq_left he] at hl
  refine ⟨by omega, ?_⟩
  unfold occ
  have e1 : t = v ++ p ++ t.drop e := by rw [hv, List.take_append_drop]
  have e2 : e - p.length = v.length := by omega
  rw [e2, e1, List.append_assoc, List.drop_left, List.take_left]
theorem item_sign {y : Str} {i : Int} {x : Nat} (h0 : 0 ≤ i) (hx : (tx y)[i.toNat]? = some x) : Txt.item y i = ⟨#[x]⟩ := item_meets h0 (by simpa [tx] using hx)
theorem sign_beq {x z : Nat} : ((⟨#[x]⟩ : Str) == ⟨#[z]⟩) = decide (x = z) := by
  by_cases h : x = z
  · subst h; simp
  · rw [decide_eq_false h, beq_eq_false_iff_ne]
    intro e
    have := congrArg tx e
    simp only [tx] at this
    simp at this
    exact h this
theorem set_ints {us : List Value} {rows : List Int} (h : IntsAre us rows) : ∀ (n : Nat) (c : Int) (t : Tok), IntsAre (us.set n (.int c t)) (rows.set n c) := by
  induction h with
  | nil => intro n c t; exact .nil
  | cons m u _ ih =>
    intro n c t
    cases n with
    | zero => exact .cons _ _ ‹_›
    | succ n => exact .cons _ _ (ih n c t)

theorem off_Fallb : True := by w_top off; exact trivial
set_option maxHeartbeats 1500000 in
theorem fallbacks_spec {φ : Led} {y : Str} {ty : Tok} (hy : tx y ≠ []) (hz : (tx y).length ≤ 100) :
    Spec 159 [.str y ty] 3 φ (fun r ψ => ∃ l us k rows, r = .ref l ∧ (l, listOf us.toArray k) ∈ ψ ∧ IntsAre us rows ∧ rows.length = (tx y).length ∧ RowsOk (tx y) rows (tx y).length ∧ Keep φ [] ψ ∧ ∀ p ∈ φ, p.1 ≠ l) := by
  walk_at "my_fill"
  walk_at "my_enter"
  intro prog w p loose mean mg mb dp un gd outer A₀ base g L s B F X N Tp hdp hun
  k_fold
  have hyl := tx_len y
  have hpos : 0 < (tx y).length := List.length_pos_iff.mpr hy
  have hzl : y.length ≤ 100 := by omega
  repeat' (first | (refine wpAny_For ?_) | walk1)
  rename_i l₀ _ l₀1 D _ hi0 n1 hs1 he1 _ he3 hD1 _ _ _ _ _ _ _ _ _ hrng F' N' _
  have hn1 : n1 = (tx y).length := by have := he3 (by omega); omega
  rw [hn1] at hs1 he1
  have hr0 : ((List.replicate ((y.length : Int)).toNat [(0 : Int)]).flatten)[0]? = some 0 := by
    rw [Int.toNat_natCast, List.flatten_replicate_singleton]
    rw [List.getElem?_replicate, if_pos (by omega)]
  generalize (List.replicate ((y.length : Int)).toNat [(0 : Int)]).flatten = rows₀ at *
  generalize (List.replicate ((y.length : Int)).toNat [Value.int 0 s.toks]).flatten = us₀ at *
  have hfr : ∀ p ∈ φ, p.1 ≠ D := fun p hp => Nat.ne_of_lt (allLt_mem hD1.2 p hp)
  have hmx0 : IsMx (tx y) (((tx y).take (1 + 0)).drop 1) 0 := by
    have : ((tx y).take (1 + 0)).drop 1 = [] := by rw [← List.length_eq_zero_iff, List.length_drop, List.length_take]; omega
    rw [this]; exact mx_nil
  refine iter_range (n := (tx y).length - 1) (fun i m ψ => ∃ us k rows c tc, m (Str.ofString "found") = some (.ref D) ∧ m (Str.ofString "count") = some (.int ((c : Nat) : Int) tc) ∧ m (Str.ofString "pattern") = some (.str y ty) ∧
    (D, listOf (List.toArray us) k) ∈ ψ ∧ IntsAre us rows ∧ rows.length = (tx y).length ∧ RowsOk (tx y) rows (1 + i) ∧ IsMx (tx y) (((tx y).take (1 + i)).drop 1) c ∧ Keep φ [] ψ) rfl hrng (range_small (by omega) (by omega) (by omega) (by omega)) (by rw [rangeSize_nat]; omega) F' N'
    ⟨us₀, 0, rows₀, 0, _, rfl, rfl, rfl, mem_hd, hi0, he1, rows_one hr0, hmx0, (Keep.refl _ _).cons.cons⟩ ?_ ?_ ?_
  · rintro i m ψ ψ' hs ⟨us, k, rows, c, tc, h1, h2, h3, h4, h5, h6, h7, h8, h9⟩
    exact ⟨us, k, rows, c, tc, h1, h2, h3, hs _ h4 (.inl rfl), h5, h6, h7, h8, fun p hp hn => hs p (h9 p hp hn) (.inr (mem_tl (mem_tl hp)))⟩
  · rintro i tp m₁ ψ I Io h tk hi ⟨us, k, rows, c, tc, h1, h2, h3, h4, h5, h6, h7, h8, h9⟩ hI hI' F₂ N₂
    refine assign1 (fr_put3 h1 h2 h3 F₂) N₂ fun h₃ tk₃ F₃ N₃ => ?_
    k_fold
    clear h1 h2 h3 F₂ N₂ F' N'
    have hpl : 1 + i < (tx y).length := by omega
    obtain ⟨x, hxp⟩ : ∃ x, (tx y)[1 + i]? = some x := ⟨_, List.getElem?_eq_getElem hpl⟩
    have hmxl := mx_le h8
    rw [List.length_drop, List.length_take] at hmxl
    have hDI : D ≠ I := hI _ mem_hd
    have hu := uniq_of (newsSub N₃ fun p hp => mem_tl hp)
    have husl : us.length = (tx y).length := by rw [h5.length, h6]
    iterate 1 walk1
    refine While_inv2 (fun n m ψ' => n ≤ 1 + i - 1 ∧ ∃ tc, m (Str.ofString "count") = some (.int ((n : Nat) : Int) tc) ∧ m (Str.ofString "found") = some (.ref D) ∧ m (Str.ofString "pattern") = some (.str y ty) ∧ m (Str.ofString "place") = some (.int (1 + (i : Int)) tp) ∧ LInv (tx y) (((tx y).take (1 + i)).drop 1) x n ∧ ψ' = (I, Io) :: ψ) F₃ N₃ ⟨by omega, tc, rfl, rfl, rfl, rfl, linv_start h8, rfl⟩ ?_ (by passes_own)
    rintro n m₂ ψ₂ h₅ tk₅ F₅ N₅ ⟨hn, tc₂, g1, g2, g3, g4, g5, rfl⟩
    have F₆ := fr_put4 g1 g2 g3 g4 F₅
    clear F₅ g1 g2 g3 g4 F₃ N₃
    have hnl : n < (tx y).length := by omega
    obtain ⟨z, hz1⟩ : ∃ z, (tx y)[n]? = some z := ⟨_, List.getElem?_eq_getElem hnl⟩
    have ei : Txt.item y (1 + (i : Int)) = ⟨#[x]⟩ := item_sign (by omega) (by rw [show (1 + (i : Int)).toNat = 1 + i by omega]; exact hxp)
    have en : Txt.item y (n : Int) = ⟨#[z]⟩ := item_sign (by omega) (by rw [Int.toNat_natCast]; exact hz1)
    have hlen1 : rows.length ≤ 1000 := by omega
    have done : ∀ (c' : Nat) (tc' : Tok) (hh : Heap) (tkk : Nat) (mm : Str → Option Value), IsMx (tx y) (((tx y).take (1 + (i + 1))).drop 1) c' → mm (Str.ofString "found") = some (.ref D) → mm (Str.ofString "count") = some (.int (c' : Int) tc') → mm (Str.ofString "pattern") = some (.str y ty) →
        Fr g L hh mm → News g L hh (put D (listOf (us.set (1 + (i : Int)).toNat (.int (c' : Int) tc')).toArray k) ((I, Io) :: ψ)) → qk .next { s with heap := hh, toks := tkk } := by
      intro c' tc' hh tkk mm hm m1 m2 m3 Fm Nm
      have e1 : (1 + (i : Int)).toNat = 1 + i := by omega
      rw [e1] at Nm
      refine ⟨hh, tkk, mm, _, rfl, Fm, Nm, put_of mem_hd (Ne.symm hDI), us.set (1 + i) (.int (c' : Int) tc'), k, rows.set (1 + i) (c' : Int), c', tc', m1, m2, m3, put_self _ _ _, set_ints h5 _ _ _, by rw [List.length_set]; exact h6, ?_, hm, ?_⟩
      · exact rows_set h7 (by omega) hm
      · exact Keep.put h9.cons fun p hp _ => hfr p hp
    have hsn := take_drop_snoc (by omega) hxp
    have hsn' : ((tx y).take (1 + (i + 1))).drop 1 = ((tx y).take (1 + i)).drop 1 ++ [x] := hsn
    repeat' walk1
    · rename ((_ != _) = true) => hc
      rename (0 < (n : Int)) => hn0
      rename Fr _ _ _ _ => F₉
      rename News _ _ _ _ => N₉
      rw [ei, en, bne, sign_beq, Bool.not_eq_true', decide_eq_false_iff_not] at hc
      obtain ⟨r, hr1, hr2⟩ := h7 (n - 1) (by omega)
      rw [show n - 1 + 1 = n by omega] at hr2
      obtain ⟨q1, q2⟩ := linv_step g5 (by omega) (by rw [hz1]; exact fun e => hc (Option.some.inj e).symm) hr2
      have er : rows.getD (((n : Int) - 1)).toNat 0 = (r : Int) := by
        rw [show (((n : Int) - 1)).toNat = n - 1 by omega, List.getD_eq_getElem?_getD, hr1]; rfl
      simp only [er] at F₉
      exact ⟨_, _, _, _, r, rfl, F₉, N₉, q2, by omega, _, rfl, rfl, rfl, rfl, q1, rfl⟩
    · rename ((_ == _) = true) => hc
      rename Fr _ _ _ _ => F₉
      rename News _ _ _ _ => N₉
      rw [ei, en, sign_beq, decide_eq_true_iff] at hc
      rw [show (n : Int) + 1 = ((n + 1 : Nat) : Int) by omega] at F₉ N₉
      exact done (n + 1) _ _ _ _ (by rw [hsn']; exact linv_hit g5 (by rw [hz1, hc])) rfl rfl rfl F₉ N₉
    · exfalso
      rename ((_ == _) = false) => hc
      rename ((_ != _) = false) => hc'
      rw [bne, hc] at hc'
      cases hc'
    · rename ((_ == _) = true) => hc
      rename Fr _ _ _ _ => F₉
      rename News _ _ _ _ => N₉
      rw [ei, en, sign_beq, decide_eq_true_iff] at hc
      rw [show (n : Int) + 1 = ((n + 1 : Nat) : Int) by omega] at F₉ N₉
      exact done (n + 1) _ _ _ _ (by rw [hsn']; exact linv_hit g5 (by rw [hz1, hc])) rfl rfl rfl F₉ N₉
    · rename ((_ == _) = false) => hc
      rename (¬ 0 < (n : Int)) => hn0
      rename Fr _ _ _ _ => F₉
      rename News _ _ _ _ => N₉
      rw [ei, en, sign_beq, decide_eq_false_iff_not] at hc
      have hn1 : n = 0 := by omega
      subst hn1
      exact done 0 _ _ _ _ (by rw [hsn']; exact linv_miss g5 (by rw [hz1]; exact fun e => hc (Option.some.inj e).symm)) rfl rfl rfl F₉ N₉
  · rintro m₁ ψ h tk ⟨us, k, rows, c, tc, h1, h2, h3, h4, h5, h6, h7, h8, h9⟩ F₂ N₂
    have F₃ := fr_put1 h1 F₂
    clear F₂ F' N'
    repeat' walk1
    dsimp only
    rw [show 1 + ((tx y).length - 1) = (tx y).length by omega] at h7
    exact BodyEnd.ret F₃ N₂ ⟨D, us, k, rows, rfl, h4, h5, h6, h7, h9, hfr⟩

theorem kw_45 : True := by
  (k_with "w call ref" => ((with_reducible show wpAny _ _ (call (Value.ref 159) _) _ _ _); (refine' Spec.use (fallbacks_spec ?w_a ?w_b) ?w_B ?w_F ?w_X ?w_N ?w_T ?w_k ?w_d ?w_u ?_; (case w_B => assumption); (case w_F => k_asm); (case w_X => assumption); (case w_N => k_asm); (case w_T => assumption); (case w_a => assumption); (case w_b => first | assumption | omega); (case w_k => exact rfl); (case w_d => omega); (case w_u => omega); intro _ _ _ _ _ _ hr'; obtain ⟨_, _, _, _, e', _, _, _, _, _, _⟩ := hr'; subst e'; (try k_sweep))))
  exact trivial

theorem off_Find : True := by w_top off; exact trivial
def FindRes (t p : List Nat) (b v : Int) : Prop := (0 ≤ b ∧ b ≤ t.length → First t p b.toNat v) ∧ (¬ (0 ≤ b ∧ b ≤ t.length) → v = -1)
theorem FindRes.uniq {t p : List Nat} {b v v' : Int} (h : FindRes t p b v) (h' : FindRes t p b v') : v = v' := by
  by_cases hb : 0 ≤ b ∧ b ≤ t.length
  · exact (h.1 hb).uniq (h'.1 hb)
  · rw [h.2 hb, h'.2 hb]
theorem first_nil {t : List Nat} {b : Nat} : First t [] b (b : Int) := .inl ⟨b, rfl, Nat.le_refl _, rfl, fun s' h1 h2 => absurd h1 (by omega)⟩
theorem occ_drop {t p : List Nat} {b s : Nat} : occ t p (b + s) ↔ occ (t.drop b) p s := by
  unfold occ; rw [List.drop_drop]
theorem first_drop {t p : List Nat} {b : Nat} {v : Int} (h : First (t.drop b) p 0 v) : First t p b (if v = -1 then -1 else (b : Int) + v) := by
  rcases h with ⟨s, rfl, h1, h2, h3⟩ | ⟨rfl, h1⟩
  · rw [if_neg (by omega)]
    refine .inl ⟨b + s, by omega, by omega, occ_drop.mpr h2, fun s' g1 g2 g3 => ?_⟩
    rw [show s' = b + (s' - b) by omega] at g3
    exact h3 (s' - b) (Nat.zero_le _) (by omega) (occ_drop.mp g3)
  · rw [if_pos rfl]
    refine .inr ⟨rfl, fun s' g1 g3 => ?_⟩
    rw [show s' = b + (s' - b) by omega] at g3
    exact h1 (s' - b) (Nat.zero_le _) (occ_drop.mp g3)
/-- no match ends by i -/
def NoneBy (t p : List Nat) (i : Nat) : Prop := ∀ s, s + p.length ≤ i → ¬ occ t p s
theorem none_step {t p : List Nat} {i c : Nat} (h : NoneBy t p i) (hm : IsMx p (t.take (i + 1)) c) (hc : c < p.length) : NoneBy t p (i + 1) := by
  intro s hs ho
  by_cases e : s + p.length ≤ i
  · exact h s e ho
  · have e1 : s + p.length = i + 1 := by omega
    have := occ_suf ho
    rw [e1] at this
    have := hm.2 _ this
    omega
theorem none_hit {t p : List Nat} {i : Nat} (h : NoneBy t p i) (hm : IsMx p (t.take (i + 1)) p.length) (hi : i + 1 ≤ t.length) : p.length ≤ i + 1 ∧ First t p 0 (((i + 1 - p.length : Nat) : Int)) := by
  obtain ⟨h1, h2⟩ := suf_occ hm.1 hi
  exact ⟨h1, .inl ⟨_, rfl, Nat.zero_le _, h2, fun s' _ g2 => h s' (by omega)⟩⟩
theorem none_all {t p : List Nat} (hp : p ≠ []) (h : NoneBy t p t.length) : First t p 0 (-1) := .inr ⟨rfl, fun s' _ ho => h s' (occ_len ho hp) ho⟩

set_option maxHeartbeats 2000000 in
theorem find_tv {φ : Led} {T : TA} {H : Hist} {nb : Nat} {x : Addr} {y : Str} {ty : Tok} {b : Int} {tb : Tok} (V : TV φ T H nb) (hx : x = T.x) (hz : H.cur.length ≤ 100) (hnb : nb ≤ 1000) (hyz : (tx y).length ≤ 100) (hb1 : -1000 ≤ b) (hb2 : b ≤ 1000) :
    Spec 166 [.ref x, .str y ty, .int b tb] 5 φ (fun r ψ => (∃ v t, r = .int v t ∧ FindRes H.cur (tx y) b v) ∧ Keep φ [] ψ) := by
  obtain ⟨S, X₀, W⟩ := id V.ex
  have hd := X₀.hd
  have hxx := X₀.hx
  subst hx
  walk_at "my_fill"
  walk_at "my_enter"
  intro prog w p loose mean mg mb dp un gd outer A₀ base g L s B F X N Tp hdp hun
  k_fold
  have hyl := tx_len y
  by_cases hb : 0 ≤ b ∧ b ≤ H.cur.length
  rotate_left
  · repeat' walk1
    all_goals (rename Keep _ _ _ => k₁; rename Fr _ _ _ _ => F₁; rename News _ _ _ _ => N₁; dsimp only; exact BodyEnd.ret F₁ N₁ ⟨⟨_, _, rfl, fun h => absurd h hb, fun _ => rfl⟩, k₁⟩)
  by_cases hy : tx y = []
  · have hye : y = Str.ofString "" := tx_inj (by rw [hy]; decide +kernel)
    subst hye
    repeat' walk1
    rename Keep _ _ _ => k₁
    rename Fr _ _ _ _ => F₁
    rename News _ _ _ _ => N₁
    dsimp only
    refine BodyEnd.ret F₁ N₁ ⟨⟨_, _, rfl, fun _ => ?_, fun h => absurd hb h⟩, k₁⟩
    rw [hy]
    have := first_nil (t := H.cur) (b := b.toNat)
    rw [show ((b.toNat : Nat) : Int) = b by omega] at this
    exact this
  have hpos : 0 < (tx y).length := List.length_pos_iff.mpr hy
  have hne : ¬ (y = Str.ofString "") := fun e => hy (by rw [e]; decide +kernel)
  repeat' (first | (refine wpAny_For ?_) | walk1)
  · exfalso
    rename (_ = true) => hc
    exact hne (eq_of_beq hc)
  rename_i φ2 k2 _ _ _ hcne _ _ _ φ1 lr us k rows hl hI9 hn hR k1 hf _ _ _ _ _ φ0 F' N' k0 yr tr hyr
  have hyr' : tx yr = H.cur.drop b.toNat := by
    rw [hyr]
    refine List.take_of_length_le ?_
    rw [List.length_drop]; omega
  have hl0 := k0.sub _ hl
  have kk : Keep φ [] φ0 := (k2.trans k1).trans k0
  clear hyr hcne hl k2 k1 k0
  refine iter_str (fun i m ψ => ∃ c tc tp, m (Str.ofString "count") = some (.int ((c : Nat) : Int) tc) ∧ m (Str.ofString "place") = some (.int (b + (i : Int)) tp) ∧ m (Str.ofString "rows") = some (.ref lr) ∧ m (Str.ofString "pattern") = some (.str y ty) ∧
    c < (tx y).length ∧ IsMx (tx y) ((tx yr).take i) c ∧ NoneBy (tx yr) (tx y) i ∧ Keep φ0 [] ψ) rfl F' N' ⟨0, _, _, rfl, by rw [show b + ((0 : Nat) : Int) = b by omega]; rfl, rfl, rfl, hpos, by rw [List.take_zero]; exact mx_nil, fun s hs => absurd hs (by omega), Keep.refl _ _⟩ ?_ ?_ ?_
  · rintro i m ψ ψ' hs ⟨c, tc, tp, g1, g2, g3, g4, g5, g6, g7, g8⟩
    exact ⟨c, tc, tp, g1, g2, g3, g4, g5, g6, g7, fun p hp hn => hs p (g8 p hp hn) (.inr hp)⟩
  · rintro i x tcx m₁ ψ I Io h tk hxp ⟨c, tc, tp, g1, g2, g3, g4, g5, g6, g7, g8⟩ hI hI' F₂ N₂
    have hil := lt_of_get hxp
    have hm₁ := g8.sub _ hl0
    have kk₁ : Keep φ [] ((I, Io) :: ψ) := (kk.trans g8).cons
    refine assign1 (fr_put4 g1 g2 g3 g4 F₂) N₂ fun h₃ tk₃ F₃ N₃ => ?_
    k_fold
    have g8' := g8
    clear g1 g2 g3 g4 F₂ N₂ F' N' g8
    iterate 1 walk1
    refine While_inv2 (fun n m ψ' => n ≤ c ∧ ∃ tc, m (Str.ofString "count") = some (.int ((n : Nat) : Int) tc) ∧ m (Str.ofString "place") = some (.int (b + (i : Int)) tp) ∧ m (Str.ofString "rows") = some (.ref lr) ∧ m (Str.ofString "pattern") = some (.str y ty) ∧ m (Str.ofString "char") = some (.str ⟨#[x]⟩ tcx) ∧ LInv (tx y) ((tx yr).take i) x n ∧ ψ' = (I, Io) :: ψ) F₃ N₃ ⟨Nat.le_refl _, tc, rfl, rfl, rfl, rfl, rfl, linv_start g6, rfl⟩ ?_ (by passes_own)
    rintro n m₂ ψ₂ h₅ tk₅ F₅ N₅ ⟨hnc, tc₂, g1, g2, g3, g4, g4', g5', rfl⟩
    have F₆ := fr_put5 g1 g2 g3 g4 g4' F₅
    clear F₅ g1 g2 g3 g4 g4' F₃ N₃
    have hnl : n < (tx y).length := by omega
    obtain ⟨z, hz1⟩ : ∃ z, (tx y)[n]? = some z := ⟨_, List.getElem?_eq_getElem hnl⟩
    have en : Txt.item y (n : Int) = ⟨#[z]⟩ := item_sign (by omega) (by rw [Int.toNat_natCast]; exact hz1)
    have hlen1 : rows.length ≤ 1000 := by omega
    have husl : us.length = (tx y).length := by rw [hI9.length, hn]
    have hsn := take_succ hxp
    repeat' walk1
    · rename ((_ != _) = true) => hc
      rename (0 < (n : Int)) => hn0
      rename Fr _ _ _ _ => F₉
      rename News _ _ _ _ => N₉
      rw [en, bne, sign_beq, Bool.not_eq_true', decide_eq_false_iff_not] at hc
      obtain ⟨r, hr1, hr2⟩ := hR (n - 1) (by omega)
      rw [show n - 1 + 1 = n by omega] at hr2
      obtain ⟨q1, q2⟩ := linv_step g5' (by omega) (by rw [hz1]; exact fun e => hc (Option.some.inj e).symm) hr2
      have er : rows.getD (((n : Int) - 1)).toNat 0 = (r : Int) := by
        rw [show (((n : Int) - 1)).toNat = n - 1 by omega, List.getD_eq_getElem?_getD, hr1]; rfl
      simp only [er] at F₉
      exact ⟨_, _, _, _, r, rfl, F₉, N₉, q2, by omega, _, rfl, rfl, rfl, rfl, rfl, q1, rfl⟩
    · rename ((_ == _) = true) => hc
      rename ((n : Int) + 1 = (y.length : Int)) => he
      rename Fr _ _ _ _ => F₉
      rename News _ _ _ _ => N₉
      rw [en, sign_beq, decide_eq_true_iff] at hc
      have hmx := linv_hit g5' (by rw [hz1, hc])
      rw [← hsn, show n + 1 = (tx y).length by omega] at hmx
      obtain ⟨q1, q2⟩ := none_hit g7 hmx hil
      rw [hyr'] at q2
      have q3 := first_drop q2
      rw [if_neg (by omega)] at q3
      dsimp only
      refine (show BodyEnd g L (fun r ψ => (∃ v t, r = .int v t ∧ FindRes H.cur (tx y) b v) ∧ Keep φ [] ψ) s _ _ from BodyEnd.ret F₉ N₉ ⟨⟨_, _, rfl, fun _ => ?_, fun h => absurd hb h⟩, kk₁⟩)
      rw [show b + (i : Int) + 1 - ((n : Int) + 1) = ((b.toNat : Nat) : Int) + ((i + 1 - (tx y).length : Nat) : Int) by omega]
      exact q3
    · rename ((_ == _) = true) => hc
      rename ((n : Int) + 1 ≠ (y.length : Int)) => he
      rename Fr _ _ _ _ => F₉
      rename News _ _ _ _ => N₉
      rw [en, sign_beq, decide_eq_true_iff] at hc
      have hmx := linv_hit g5' (by rw [hz1, hc])
      rw [← hsn] at hmx
      have hlt : n + 1 < (tx y).length := by omega
      exact ⟨_, _, _, _, rfl, F₉, N₉, mem_hd, n + 1, _, _, rfl, by rw [show b + ((i + 1 : Nat) : Int) = b + (i : Int) + 1 by omega]; rfl, rfl, rfl, hlt, hmx, none_step g7 hmx hlt, g8'.cons⟩
    · exfalso
      rename ((_ == _) = false) => hc
      rename ((_ != _) = false) => hc'
      rw [bne, hc] at hc'
      cases hc'
    · exfalso
      rename ((_ == _) = false) => hc
      rename ((_ != _) = false) => hc'
      rw [bne, hc] at hc'
      cases hc'
    · rename ((_ == _) = true) => hc
      rename ((n : Int) + 1 = (y.length : Int)) => he
      rename Fr _ _ _ _ => F₉
      rename News _ _ _ _ => N₉
      rw [en, sign_beq, decide_eq_true_iff] at hc
      have hmx := linv_hit g5' (by rw [hz1, hc])
      rw [← hsn, show n + 1 = (tx y).length by omega] at hmx
      obtain ⟨q1, q2⟩ := none_hit g7 hmx hil
      rw [hyr'] at q2
      have q3 := first_drop q2
      rw [if_neg (by omega)] at q3
      dsimp only
      refine (show BodyEnd g L (fun r ψ => (∃ v t, r = .int v t ∧ FindRes H.cur (tx y) b v) ∧ Keep φ [] ψ) s _ _ from BodyEnd.ret F₉ N₉ ⟨⟨_, _, rfl, fun _ => ?_, fun h => absurd hb h⟩, kk₁⟩)
      rw [show b + (i : Int) + 1 - ((n : Int) + 1) = ((b.toNat : Nat) : Int) + ((i + 1 - (tx y).length : Nat) : Int) by omega]
      exact q3
    · rename ((_ == _) = true) => hc
      rename ((n : Int) + 1 ≠ (y.length : Int)) => he
      rename Fr _ _ _ _ => F₉
      rename News _ _ _ _ => N₉
      rw [en, sign_beq, decide_eq_true_iff] at hc
      have hmx := linv_hit g5' (by rw [hz1, hc])
      rw [← hsn] at hmx
      have hlt : n + 1 < (tx y).length := by omega
      exact ⟨_, _, _, _, rfl, F₉, N₉, mem_hd, n + 1, _, _, rfl, by rw [show b + ((i + 1 : Nat) : Int) = b + (i : Int) + 1 by omega]; rfl, rfl, rfl, hlt, hmx, none_step g7 hmx hlt, g8'.cons⟩
    · exfalso; omega
    · rename ((_ == _) = false) => hc
      rename (¬ 0 < (n : Int)) => hn0
      rename Fr _ _ _ _ => F₉
      rename News _ _ _ _ => N₉
      rw [en, sign_beq, decide_eq_false_iff_not] at hc
      have hn1 : n = 0 := by omega
      subst hn1
      have hmx := linv_miss g5' (by rw [hz1]; exact fun e => hc (Option.some.inj e).symm)
      rw [← hsn] at hmx
      exact ⟨_, _, _, _, rfl, F₉, N₉, mem_hd, 0, _, _, rfl, by rw [show b + ((i + 1 : Nat) : Int) = b + (i : Int) + 1 by omega]; rfl, rfl, rfl, hpos, hmx, none_step g7 hmx hpos, g8'.cons⟩
  · rintro m₁ ψ h tk ⟨c, tc, tp, g1, g2, g3, g4, g5, g6, g7, g8⟩ F₂ N₂
    have F₃ := fr_put1 g1 F₂
    clear F₂ F' N'
    repeat' walk1
    dsimp only
    refine BodyEnd.ret F₃ N₂ ⟨⟨_, _, rfl, fun _ => ?_, fun h => absurd hb h⟩, kk.trans g8⟩
    have := none_all hy g7
    rw [hyr'] at this
    exact first_drop this

theorem kw_46 : True := by
  (k_with "w call ref" => ((with_reducible show wpAny _ _ (call (Value.ref 166) _) _ _ _); (refine' Spec.use (find_tv ?w_V ?w_x ?w_a ?w_b ?w_c ?w_d1 ?w_d2) ?w_B ?w_F ?w_X ?w_N ?w_T ?w_k ?w_d ?w_u ?_; (case w_B => assumption); (case w_F => k_asm); (case w_X => assumption); (case w_N => k_asm); (case w_T => assumption); (case w_V => walk_at "my_tv"); (case w_x => walk_at "my_x"); (case w_a => walk_at "my_om"); (case w_b => omega); (case w_c => omega); (case w_d1 => omega); (case w_d2 => omega); (case w_k => exact rfl); (case w_d => omega); (case w_u => omega); intro _ _ _ _ _ _ hr'; obtain ⟨⟨_, _, e', _⟩, _⟩ := hr'; subst e'; (try k_sweep))))
  exact trivial
theorem kw_47 : True := by
  (k_with "w call ref" => ((with_reducible show wpAny _ _ (call (Value.ref 103) _) _ _ _); (refine' Spec.use (replace_tv ?w_V ?w_x ?w_a ?w_b ?w_c ?w_z ?w_z2 ?w_z3 ?w_z4) ?w_B ?w_F ?w_X ?w_N ?w_T ?w_k ?w_d ?w_u ?_; (case w_B => assumption); (case w_F => k_asm); (case w_X => assumption); (case w_N => k_asm); (case w_T => assumption); (case w_V => walk_at "my_tv"); (case w_x => walk_at "my_x"); (case w_a => omega); (case w_b => omega); (case w_c => walk_at "my_om"); (case w_z => walk_at "my_om"); (case w_z2 => omega); (case w_z3 => walk_at "my_om"); (case w_z4 => omega); (case w_k => exact rfl); (case w_d => omega); (case w_u => omega); intro _ _ _ _ _ _ hr'; obtain ⟨e', _, _, _⟩ := hr'; subst e'; (try k_sweep))))
  exact trivial

theorem off_ReplAll : True := by w_top off; exact trivial
inductive Rep (p a : List Nat) : List Nat → List Nat → Nat → Prop where
  | nil : Rep p a [] [] 0
  | hit {c : Nat} {cs out : List Nat} {n : Nat} : p ≠ [] → (c :: cs).take p.length = p → Rep p a ((c :: cs).drop p.length) out n → Rep p a (c :: cs) (a ++ out) (n + 1)
  | miss {c : Nat} {cs out : List Nat} {n : Nat} : ¬ (p ≠ [] ∧ (c :: cs).take p.length = p) → Rep p a cs out n → Rep p a (c :: cs) (c :: out) n
theorem Rep.uniq {p a cs o1 o2 : List Nat} {n1 n2 : Nat} (h1 : Rep p a cs o1 n1) (h2 : Rep p a cs o2 n2) : o1 = o2 ∧ n1 = n2 := by
  induction h1 generalizing o2 n2 with
  | nil => cases h2; exact ⟨rfl, rfl⟩
  | hit e1 e2 _ ih =>
    cases h2 with
    | hit _ _ r => obtain ⟨rfl, rfl⟩ := ih r; exact ⟨rfl, rfl⟩
    | miss e _ => exact absurd ⟨e1, e2⟩ e
  | miss e _ ih =>
    cases h2 with
    | hit e1 e2 _ => exact absurd ⟨e1, e2⟩ e
    | miss _ r => obtain ⟨rfl, rfl⟩ := ih r; exact ⟨rfl, rfl⟩
theorem occ_zero {t p : List Nat} : occ t p 0 ↔ t.take p.length = p := by unfold occ; rw [List.drop_zero]
theorem occ_cons {c : Nat} {t p : List Nat} {s : Nat} : occ (c :: t) p (s + 1) ↔ occ t p s := by unfold occ; rw [List.drop_succ_cons]
theorem rep_none {p a : List Nat} : ∀ {cs : List Nat}, (∀ s, ¬ occ cs p s) → Rep p a cs cs 0
  | [], _ => .nil
  | c :: cs, h => .miss (fun e => h 0 (occ_zero.mpr e.2)) (rep_none fun s ho => h (s + 1) (occ_cons.mpr ho))
theorem rep_empty {a : List Nat} : ∀ {cs : List Nat}, Rep [] a cs cs 0
  | [] => .nil
  | _ :: _ => .miss (fun e => e.1 rfl) rep_empty
theorem rep_first {p a : List Nat} (hp : p ≠ []) : ∀ {s : Nat} {cs out : List Nat} {n : Nat}, occ cs p s → (∀ s', s' < s → ¬ occ cs p s') → Rep p a (cs.drop (s + p.length)) out n → Rep p a cs (cs.take s ++ a ++ out) (n + 1)
  | 0, [], _, _, ho, _, _ => by
    have h1 := occ_len ho hp
    have : 0 < p.length := List.length_pos_iff.mpr hp
    rw [List.length_nil] at h1
    omega
  | 0, c :: cs, _, _, ho, _, r => by
    rw [Nat.zero_add] at r
    rw [List.take_zero, List.nil_append]
    exact .hit hp (occ_zero.mp ho) r
  | s + 1, [], _, _, ho, _, _ => by
    have h1 := occ_len ho hp
    rw [List.length_nil] at h1
    omega
  | s + 1, c :: cs, out, n, ho, hn, r => by
    rw [show s + 1 + p.length = (s + p.length) + 1 by omega, List.drop_succ_cons] at r
    have ih := rep_first hp (occ_cons.mp ho) (fun s' h' h => hn (s' + 1) (by omega) (occ_cons.mpr h)) r
    rw [List.take_succ_cons, List.cons_append, List.cons_append]
    exact .miss (fun e => hn 0 (by omega) (occ_zero.mpr e.2)) ih
theorem Frame.trans {φ ψ χ : Led} {T T₁ T₂ : TA} (h1 : Frame φ T ψ T₁) (h2 : Frame ψ T₁ χ T₂) : Frame φ T χ T₂ := by
  obtain ⟨a1, a2, a3⟩ := h1
  obtain ⟨b1, b2, b3⟩ := h2
  refine ⟨b1.trans a1, fun p hp hn => b2 p (a2 p hp hn) fun hm => ?_, fun b hb => ?_⟩
  · rcases a3 _ hm with h | h
    · exact hn h
    · exact h p hp rfl
  · rcases b3 b hb with h | h
    · exact a3 b h
    · by_cases hb' : b ∈ T.fp
      · exact .inl hb'
      · refine .inr fun p hp e => ?_
        exact h p (a2 p hp (by rw [e]; exact hb')) e
theorem TV.inst {φ : Led} {T : TA} {H : Hist} {nb : Nat} (V : TV φ T H nb) : (T.x, instObj 134 T.dx) ∈ φ ∧ (T.dx, T.dict) ∈ φ := by
  obtain ⟨S, X, W⟩ := V.ex
  exact ⟨X.hx, X.hd⟩

/-- between the turns of replace_all -/
def RepState (p a t₀ cur : List Nat) (f n : Nat) (v : Int) : Prop := ∃ d rest : List Nat, cur = d ++ rest ∧ rest.length = n ∧ FindRes cur p (d.length : Int) v ∧ (∀ out k, Rep p a rest out k → Rep p a t₀ (d ++ out) (f + k)) ∧ d.length ≤ 3 * (t₀.length - n) ∧ f ≤ t₀.length - n ∧ n ≤ t₀.length
theorem rep_start {p a t₀ : List Nat} {v : Int} (hv : FindRes t₀ p 0 v) : RepState p a t₀ t₀ 0 t₀.length v :=
  ⟨[], t₀, rfl, rfl, hv, fun out k h => by rw [List.nil_append, Nat.zero_add]; exact h, by simp, by simp, Nat.le_refl _⟩
theorem rep_end {p a t₀ cur : List Nat} {f n : Nat} {v : Int} (h : RepState p a t₀ cur f n v) (hv : v < 0) : Rep p a t₀ cur f := by
  obtain ⟨d, rest, rfl, _, hf, hr, _⟩ := h
  have := hf.1 ⟨by omega, by rw [List.length_append]; omega⟩
  rcases this with ⟨s, rfl, _⟩ | ⟨_, h2⟩
  · omega
  · refine hr rest 0 (rep_none fun s ho => ?_)
    refine h2 (d.length + s) (by omega) (occ_drop.mpr ?_)
    rw [List.drop_left]
    exact ho
theorem rep_turn {p a t₀ cur : List Nat} {f n : Nat} {v : Int} (hp : p ≠ []) (ha : a.length ≤ 3) (h : RepState p a t₀ cur f n v) (hv : 0 ≤ v) :
    v + p.length ≤ cur.length ∧ 0 < n ∧ ∀ v', FindRes (cur.take v.toNat ++ a ++ cur.drop (v + p.length).toNat) p (v + a.length) v' → ∃ n', n' < n ∧ RepState p a t₀ (cur.take v.toNat ++ a ++ cur.drop (v + p.length).toNat) (f + 1) n' v' := by
  obtain ⟨d, rest, rfl, hn, hf, hr, h1, h2, h3⟩ := h
  have hpos : 0 < p.length := List.length_pos_iff.mpr hp
  have := hf.1 ⟨by omega, by rw [List.length_append]; omega⟩
  rcases this with ⟨s, rfl, g1, g2, g3⟩ | ⟨rfl, _⟩
  · obtain ⟨j, rfl⟩ : ∃ j, s = d.length + j := ⟨s - d.length, by omega⟩
    have ho : occ rest p j := by
      have := occ_drop.mp g2
      rw [List.drop_left] at this
      exact this
    have hl := occ_len ho hp
    rw [List.length_append]
    refine ⟨by omega, by omega, fun v' hv' => ⟨n - (j + p.length), by omega, d ++ rest.take j ++ a, rest.drop (j + p.length), ?_, ?_, ?_, ?_, ?_, ?_, ?_⟩⟩
    · rw [Int.toNat_natCast, show (((d.length + j : Nat) : Int) + p.length).toNat = d.length + (j + p.length) by omega, ← List.drop_drop, List.drop_left, List.take_append, List.take_of_length_le (by omega), Nat.add_sub_cancel_left]
    · rw [List.length_drop]; omega
    · have e : (((d ++ rest.take j ++ a).length : Nat) : Int) = ((d.length + j : Nat) : Int) + a.length := by
        rw [List.length_append, List.length_append, List.length_take]; omega
      rw [e]; exact hv'
    · intro out k hR
      have g := rep_first hp ho (fun s' hs' h' => g3 (d.length + s') (by omega) (by omega) (occ_drop.mpr (by rw [List.drop_left]; exact h'))) hR
      have := hr _ _ g
      rw [show f + 1 + k = f + (k + 1) by omega]
      simpa [List.append_assoc] using this
    · rw [List.length_append, List.length_append, List.length_take]; omega
    · omega
    · omega
  · omega
theorem rep_len {p a t₀ cur : List Nat} {f n : Nat} {v : Int} (h : RepState p a t₀ cur f n v) : cur.length ≤ 3 * t₀.length ∧ f ≤ t₀.length := by
  obtain ⟨d, rest, rfl, hn, hf, hr, h1, h2, h3⟩ := h
  rw [List.length_append]; omega

set_option maxHeartbeats 2000000 in
theorem replace_all_tv {φ : Led} {T : TA} {H : Hist} {nb : Nat} {x : Addr} {y z : Str} {ty tz : Tok} (V : TV φ T H nb) (hx : x = T.x) (hz : H.cur.length ≤ 30) (hnb : nb ≤ 500) (hyz : (tx y).length ≤ 100) (hzl : (tx z).length ≤ 3) (hp : H.past.length ≤ 500) (hfu : H.future = []) :
    Spec 173 [.ref x, .str y ty, .str z tz] 7 φ (fun r ψ => ∃ f t T' H' tr, r = .int ((f : Nat) : Int) t ∧ TV ψ T' H' (nb + f) ∧ Frame φ T ψ T' ∧ Rep (tx y) (tx z) H.cur H'.cur f ∧ H'.past ++ [H'.cur] = H.past ++ [H.cur] ++ tr ∧ tr.length = f ∧ H'.future = [] ∧ f ≤ H.cur.length ∧ H'.cur.length ≤ 90) := by
  have ⟨hxx, hd⟩ := V.inst
  subst hx
  walk_at "my_fill"
  walk_at "my_enter"
  intro prog w p loose mean mg mb dp un gd outer A₀ base g L s B F X N Tp hdp hun
  k_fold
  have hyl := tx_len y
  have hzl' := tx_len z
  by_cases hy : tx y = []
  · have hye : y = Str.ofString "" := tx_inj (by rw [hy]; decide +kernel)
    subst hye
    walk_at "my_go"
    rename Fr _ _ _ _ => F₁
    rename News _ _ _ _ => N₁
    refine While_inv2 (fun n m ψ' => (∃ t, m (Str.ofString "place") = some (.int (-1) t)) ∧ (∃ t, m (Str.ofString "found") = some (.int 0 t)) ∧ ψ' = φ) (n₀ := 0) F₁ N₁ ⟨⟨_, rfl⟩, ⟨_, rfl⟩, rfl⟩ ?_ (by passes_own)
    rintro n m₁ ψ h₂ tk₂ F₂ N₂ ⟨⟨t1, g1⟩, ⟨t2, g2⟩, rfl⟩
    have F₃ := fr_put2 g1 g2 F₂
    clear F₁ N₁ F₂
    repeat' walk1
    rename Fr _ _ _ _ => F₉
    rename News _ _ _ _ => N₉
    dsimp only
    refine BodyEnd.ret F₉ N₉ ⟨0, _, T, H, [], rfl, V, frame_keep (Keep.refl _ _), ?_, by rw [List.append_nil], rfl, hfu, Nat.zero_le _, by omega⟩
    rw [hy]; exact rep_empty
  have hpos : 0 < (tx y).length := List.length_pos_iff.mpr hy
  have hne : ¬ (y = Str.ofString "") := fun e => hy (by rw [e]; decide +kernel)
  walk_at "my_go"
  rotate_left
  · exfalso
    rename (_ = false) => hc
    rw [bne_eq_false_iff_eq] at hc
    exact hne hc
  rename Keep _ _ _ => k₁
  rename FindRes _ _ _ _ => hV₁
  rename Fr _ _ _ _ => F₁
  rename News _ _ _ _ => N₁
  refine While_inv2 (fun n m ψ' => ∃ v tv f tf T' H' tr, m (Str.ofString "place") = some (.int v tv) ∧ m (Str.ofString "found") = some (.int ((f : Nat) : Int) tf) ∧ m (Str.ofString "text") = some (.ref T.x) ∧ m (Str.ofString "pattern") = some (.str y ty) ∧ m (Str.ofString "added") = some (.str z tz) ∧
    TV ψ' T' H' (nb + f) ∧ T.x = T'.x ∧ Frame φ T ψ' T' ∧ RepState (tx y) (tx z) H.cur H'.cur f n v ∧ H'.past ++ [H'.cur] = H.past ++ [H.cur] ++ tr ∧ tr.length = f ∧ H'.future = []) (n₀ := H.cur.length) F₁ N₁
    ⟨_, _, 0, _, T, H, [], rfl, rfl, rfl, rfl, rfl, V.sub k₁.sub, rfl, frame_keep k₁, rep_start hV₁, by rw [List.append_nil], rfl, hfu⟩ ?_ (by passes_own)
  rintro n m₁ ψ h₂ tk₂ F₂ N₂ ⟨v, tv, f, tf, T', H', tr, g1, g2, g3, g4, g5, V', hxT, hfr, hR, hpa, htr, hfut⟩
  have F₃ := fr_put5 g1 g2 g3 g4 g5 F₂
  clear F₁ N₁ F₂ hxx hd k₁ hV₁ g1 g2 g3 g4 g5
  have hl1 := rep_len hR
  by_cases hv : 0 ≤ v
  · obtain ⟨q1, q2, q3⟩ := rep_turn hy hzl hR hv
    have hxx : (T.x, instObj 134 T'.dx) ∈ ψ := by rw [hxT]; exact V'.inst.1
    have hd := V'.inst.2
    have hpl : H'.past.length = H.past.length + f := by
      have := congrArg List.length hpa
      simp only [List.length_append, List.length_singleton] at this
      omega
    rw [hyl, hzl'] at q3
    repeat' walk1
    rename_i φa Ta Va fra _ _ _ φb kb vb tb Fb _ F₉ N₉
    obtain ⟨n', hn', hR'⟩ := q3 vb Fb
    refine ⟨_, _, _, φb, n', rfl, F₉, N₉, hn', vb, _, f + 1, _, Ta, _, tr ++ [H'.cur.take v.toNat ++ tx z ++ H'.cur.drop (v + (y.length : Int)).toNat], rfl, by rw [show (((f + 1 : Nat)) : Int) = (f : Int) + 1 by omega]; rfl, rfl, rfl, rfl, Va.sub kb.sub, hxT.trans fra.1.symm, (hfr.trans fra).trans (frame_keep kb), hR', ?_, by rw [List.length_append, htr]; rfl, rfl⟩
    dsimp only
    rw [hpa]
    simp only [List.append_assoc]
  · repeat' walk1
    rename Fr _ _ _ _ => F₉
    rename News _ _ _ _ => N₉
    dsimp only
    exact BodyEnd.ret F₉ N₉ ⟨f, _, T', H', tr, rfl, V', hfr, rep_end hR (by omega), hpa, htr, hfut, hl1.2, by omega⟩

theorem off_Draw : True := by w_top off; exact trivial
/-- the list of figures -/
def Figs (φ : Led) (l : Addr) : Prop := ∃ us k ns, (l, listOf (List.toArray us) k) ∈ φ ∧ IntsAre us ns ∧ us.length ≤ 1000
theorem ints_last {us : List Value} {v : Value} {ns : List Int} (h : IntsAre (us ++ [v]) ns) : ∃ ms n t, ns = ms ++ [n] ∧ v = .int n t ∧ IntsAre us ms := by
  induction us generalizing ns with
  | nil => cases h with | cons n t r => cases r; exact ⟨[], n, t, rfl, rfl, .nil⟩
  | cons u us ih =>
    cases h with
    | cons n t r =>
      obtain ⟨ms, n', t', rfl, rfl, h'⟩ := ih r
      exact ⟨n :: ms, n', t', rfl, rfl, .cons _ _ h'⟩
theorem listNe {φ : Led} {a b : Addr} {us vs : List Value} {k k' : Nat} (U : Uniq φ) (h1 : (a, listOf us.toArray k) ∈ φ) (h2 : (b, listOf vs.toArray k') ∈ φ) (h : us ≠ vs) : a ≠ b := by
  rintro rfl
  have e := congrArg Obj.data (U _ _ _ h1 h2)
  have e' : Data.seq us.toArray k = Data.seq vs.toArray k' := e
  injection e' with e' _
  exact h (by simpa using e')
theorem ints_pcs {φ : Led} {us : List Value} {ns : List Int} {ps : List (Int × Int × Int)} (h : IntsAre us ns) (hP : Pcs φ us ps) : us = [] := by
  cases h with
  | nil => rfl
  | cons n t r => cases hP
theorem ints_pls {φ : Led} {fp : List Addr} {us : List Value} {ns : List Int} {ps : List (List (Int × Int × Int))} (h : IntsAre us ns) (hP : PLs φ fp us ps) : us = [] := by
  cases h with
  | nil => rfl
  | cons n t r => cases hP
theorem ints_strs {us : List Value} {ns : List Int} {ys : List Str} (h : IntsAre us ns) (hP : StrsAre us ys) : us = [] := by
  cases h with
  | nil => rfl
  | cons n t r => cases hP
theorem PLs.offInts {φ ψ : Led} {fp : List Addr} {us vs : List Value} {pss : List (List (Int × Int × Int))} {l : Addr} {ns : List Int} {k : Nat} (h : PLs φ fp us pss) (U : Uniq φ) (hl : (l, listOf vs.toArray k) ∈ φ) (hI : IntsAre vs ns) (hne : vs ≠ []) (hs : ∀ p ∈ φ, p.1 ≠ l → p ∈ ψ) : PLs ψ fp us pss := by
  have nt : NoTup φ l := noTup_of U hl (by simp)
  induction h with
  | nil => exact .nil
  | cons hm hn hP _ ih => exact .cons (hs _ hm (listNe U hm hl fun e => hne (ints_pcs hI (by rw [e] at hP; exact hP)))) hn (hP.off nt hs) ih
/-- a list of figures is none of the text's -/
theorem TV.offInts {φ ψ : Led} {T : TA} {H : Hist} {nb : Nat} {vs : List Value} {l : Addr} {ns : List Int} {k : Nat} (V : TV φ T H nb) (U : Uniq φ) (hl : (l, listOf vs.toArray k) ∈ φ) (hI : IntsAre vs ns) (hne : vs ≠ []) (hs : ∀ p ∈ φ, p.1 ≠ l → p ∈ ψ) : TV ψ T H nb := by
  obtain ⟨S, X, W⟩ := V.ex
  have nt : NoTup φ l := noTup_of U hl (by simp)
  exact ⟨S, ⟨hs _ X.hx (clsNe U X.hx hl (by simp)), hs _ X.hd (clsNe U X.hd hl (by simp)),
    hs _ X.hb (listNe U X.hb hl fun e => hne (ints_strs hI (by rw [← e]; exact X.hB))), hs _ X.hp (listNe U X.hp hl fun e => hne (ints_pcs hI (by rw [← e]; exact X.hP))),
    hs _ X.ha (listNe U X.ha hl fun e => hne (ints_pls hI (by rw [← e]; exact X.hA))), hs _ X.hf (listNe U X.hf hl fun e => hne (ints_pls hI (by rw [← e]; exact X.hF))),
    X.hB, X.hP.off nt hs, X.hA.offInts U hl hI hne hs, X.hF.offInts U hl hI hne hs, X.d1, X.d2, X.d3, X.d4⟩, W⟩
/-- every text stands on -/
def Soft (φ ψ : Led) : Prop := ∀ T H nb, TV φ T H nb → TV ψ T H nb
theorem Soft.of {φ ψ : Led} (h : ∀ p ∈ φ, p ∈ ψ) : Soft φ ψ := fun _ _ _ V => V.sub h
theorem Soft.good {φ ψ : Led} (h : ∀ p ∈ φ, good p.2 = true → p ∈ ψ) : Soft φ ψ := fun _ _ _ V => V.mono h
theorem Soft.trans {φ ψ χ : Led} (h : Soft φ ψ) (h' : Soft ψ χ) : Soft φ χ := fun _ _ _ V => h' _ _ _ (h _ _ _ V)
theorem tv_soft {φ ψ : Led} {T : TA} {H : Hist} {nb : Nat} (V : TV φ T H nb) (h : Soft φ ψ) : TV ψ T H nb := h _ _ _ V
/-- what a draw leaves of the ledger -/
def Drawn (φ : Led) (l : Addr) (ψ : Led) : Prop := Keep φ [] ψ ∨ ∃ us k ns, (l, listOf (List.toArray us) k) ∈ φ ∧ IntsAre us ns ∧ us ≠ [] ∧ Keep φ [l] ψ
theorem Drawn.soft {φ ψ χ : Led} {l : Addr} (D : Drawn φ l ψ) (U : Uniq φ) {φ' : Led} (hφ : ∀ p ∈ φ', p ∈ φ) (hl : ∀ o, (l, o) ∈ φ → (l, o) ∈ φ') (hs : ∀ p ∈ φ', p ∈ ψ → p ∈ χ) : Soft φ' χ := by
  intro T H nb V
  rcases D with D | ⟨us, k, ns, h1, h2, h3, D⟩
  · exact V.sub fun p hp => hs p hp (D p (hφ p hp) (fun h => nomatch h))
  · exact V.offInts (U.sub hφ) (hl _ h1) h2 h3 fun p hp hn => hs p hp (D p (hφ p hp) (by simpa using hn))
set_option maxHeartbeats 2000000 in
theorem draw_spec {φ : Led} {l : Addr} {lim : Int} {tl : Tok} (hG : Figs φ l) (h0 : 0 < lim) :
    Spec 194 [.ref l, .int lim tl] 1 φ (fun r ψ => (∃ v t, r = .int v t ∧ 0 ≤ v ∧ v < lim) ∧ Figs ψ l ∧ Keep φ [l] ψ ∧ Soft φ ψ ∧ Drawn φ l ψ) := by
  walk_at "my_fill"
  walk_at "my_enter"
  intro prog w p loose mean mg mb dp un gd outer A₀ base g L s B F X N Tp hdp hun
  k_fold
  have U := uniq_of N
  obtain ⟨us, k, ns, hm, hI, hz⟩ := hG
  rcases List.eq_nil_or_concat us with rfl | ⟨us', v, rfl⟩
  · cases hI
    have hI : IntsAre [] [] := .nil
    repeat' walk1
    rename Fr _ _ _ _ => F₉
    rename News _ _ _ _ => N₉
    exact BodyEnd.ret F₉ N₉ ⟨⟨0, _, rfl, Int.le_refl _, h0⟩, ⟨[], k, [], mem_tl hm, .nil, by decide⟩, (Keep.refl _ _).cons, Soft.of fun p hp => mem_tl hp, .inl (Keep.refl _ _).cons⟩
  · rw [List.concat_eq_append] at *
    obtain ⟨ms, n, t, rfl, rfl, hI'⟩ := ints_last hI
    have hzu : us'.length ≤ 1000 := by rw [List.length_append] at hz; omega
    have hne : ms ++ [n] ≠ [] := by simp
    repeat' walk1
    rename (∀ p ∈ φ, _) => l1
    rename Fr _ _ _ _ => F₉
    rename News _ _ _ _ => N₉
    refine BodyEnd.ret F₉ N₉ ⟨⟨_, _, rfl, Int.fmod_nonneg_of_pos _ h0, Int.fmod_lt_of_pos _ h0⟩, ⟨us', k + 1, ms, put_self _ _ _, hI', hzu⟩, (?hK : Keep _ _ _), ?_, .inr ⟨_, _, _, hm, hI, by simp, ?hK⟩⟩
    · exact Keep.put (Keep.refl _ _).cons fun p hp hn e => hn (by rw [e]; exact List.Mem.head _)
    · exact fun T H nb V => V.offInts U hm hI (by simp) fun p hp hn => put_of (mem_tl hp) hn
theorem Figs.sub {φ ψ : Led} {l : Addr} (h : Figs φ l) (hs : ∀ p ∈ φ, p ∈ ψ) : Figs ψ l := by
  obtain ⟨us, k, ns, h1, h2, h3⟩ := h
  exact ⟨us, k, ns, hs _ h1, h2, h3⟩
theorem figs_keep {l : Addr} {φ ψ : Led} (hm : Figs φ l) (h : Keep φ [] ψ) : Figs ψ l := hm.sub h.sub
theorem figs_tl {l : Addr} {φ : Led} {q : Addr × Obj} (hm : Figs φ l) : Figs (q :: φ) l := hm.sub fun _ hp => mem_tl hp

theorem kw_48 : True := by
  (k_with "my_figs" => first | with_reducible assumption | (refine' figs_keep ?g_m ?g_h; (case g_h => with_reducible assumption); (case g_m => walk_at "my_figs")) | (refine' figs_tl ?g_m; (case g_m => walk_at "my_figs")))
  exact trivial
theorem kw_49 : True := by
  (k_with "w call ref" => ((with_reducible show wpAny _ _ (call (Value.ref 194) _) _ _ _); (refine' Spec.use (draw_spec ?w_G ?w_a) ?w_B ?w_F ?w_X ?w_N ?w_T ?w_k ?w_d ?w_u ?_; (case w_B => assumption); (case w_F => k_asm); (case w_X => assumption); (case w_N => k_asm); (case w_T => assumption); (case w_G => walk_at "my_figs"); (case w_a => omega); (case w_k => exact rfl); (case w_d => omega); (case w_u => omega); intro _ _ _ _ _ _ hr'; obtain ⟨⟨_, _, e', _, _⟩, _, _, _, _⟩ := hr'; subst e'; (try k_sweep))))
  exact trivial
theorem kw_50 : True := by
  (k_with "my_tv" => first | with_reducible assumption | (refine' tv_soft ?v_m ?v_h; (case v_h => with_reducible assumption); (case v_m => walk_at "my_tv")) | (refine' tv_keep ?v_m ?v_h; (case v_h => with_reducible assumption); (case v_m => walk_at "my_tv")) | (refine' tv_tl ?v_m; (case v_m => walk_at "my_tv")))
  exact trivial

theorem off_Cells : True := by w_top off; exact trivial
theorem enterC {f : Addr} {args : List Value} {need : Nat} {φ : Led} {Post : Value → Led → Prop} {name qual : Str} {params : Arguments} {body : List Stmt} {scope : Scope} {dV kV doc pm cdv ct oc : Value} {an od : Option Addr} {osl : Array (Option Value)} {binds : List (Str × Value)}
    (ho : ∀ w : World, (Mine.hd.heap_39 w.params).lookup f = some ⟨oc, od, .func (fnOf name qual params body scope dV kV doc pm an cdv ct), osl⟩) (hcd : ∀ w : World, codeIn (Mine.hd.heap_39 w.params) cdv qual = true)
    (hbind : bindArgs (fnOf name qual params body scope dV kV doc pm an cdv ct) ⟨args, []⟩ = pure binds) (hkind : (binds.all fun y => scope.names.lookup y.1 == some .local || scope.names.lookup y.1 == some .cell) = true)
    (hnd : ((cellsFrom 0 scope.names []).map (·.1)).Nodup) (hco : scope.isCoroutine = false) (hgen : scope.isGenerator = false) (hk : scope.kind = .function)
    (h : ∀ {prog : Program} {w : World} {p : Program} {loose : List Str} {mean : ExcName → Option Value} {mg mb : Str → Option Value} {dp un : Nat} {gd : Option (List Code)} {outer : List Env} {A₀ : Around} {base g : Heap} {L : Addr} {s : Shared} {cells : Led},
      Below A₀ base outer g → Fr g L s.heap (bindL (envOfC qual scope L f cdv).kindOf binds fun _ => none) → (Mine.hd.heap_39 w.params).In g → News g L s.heap (cells ++ φ) →
      CellsAre (bindC (envOfC qual scope L f cdv).kindOf binds fun _ => none) (cellsFrom (L + 1) scope.names []) cells → (∀ p ∈ φ, p.1 < L) → Top p loose mean mg mb g → dp + need < 601 → un + 100 * need < 9003 →
      wpAny (model prog w) (ktrTop dp un gd qual scope L f cdv (cellsFrom (L + 1) scope.names []) outer) (execs body (envOfC qual scope L f cdv)) (BodyEnd g L Post s) (fun _ _ => False) s) :
    Spec f args need φ Post := by
  intro prog w p loose mean mg mb dp un gd cn cs a ccd cl outer A₀ base h₀ L m s Q E B F X N T hk' hdp hun hret
  refine wpAny_call ?_
  refine code_defC B F X N T rfl rfl hk' (ho w) (hcd w) ?_ (BindsTo.of_eq hbind) hkind hnd ?_ hco hgen hk
  · show dp < recursionLimit
    unfold recursionLimit; omega
  · intro g L' h₁ tk cells FG F' N' Y B' X' T' hl
    refine wpAny_noRaise ?_
    refine wpAny_mono (h (dp := dp + 1) (un := un + 3) (gd := gd) (outer := envX cn cs L a ccd cl :: outer) (s := { s with heap := h₁, toks := tk }) B' F' X' N' Y hl T' (by omega) (by omega)) (fun fl s' he => ?_) fun _ _ x => x
    obtain ⟨h', tk', m', φ', rfl, F₂, N₂, hp⟩ := he
    exact leaveK_ F₂ N₂ fun F₃ N₃ => hret _ _ _ _ F₃ N₃ hp

section
open LCg LCt
variable {prog : Program} {w : World} {A : Around} {h₀ : Heap} {L : Addr} {m : Str → Option Value} {env : Env} {ct elt : Expr} {x : Str} {scope : Scope} {cl : List (Str × Addr)} {s : Shared} {S : Led → Prop} {P : Nat → Value → Prop} {Fin : List Value → Led → Prop}
/-- the end of an element -/
def EltEnd (h₀ : Heap) (L : Addr) (m : Str → Option Value) (s₁ : Shared) (I : Addr) (oI : Obj) (C : Addr) (oC : Obj) (D : Addr) (oD : Obj) (S : Led → Prop) (R : Value → Led → Prop) (y : Value) (s₂ : Shared) : Prop :=
  ∃ h' tk ψ, s₂ = { s₁ with heap := h', toks := tk } ∧ Fr h₀ L h' m ∧ News h₀ L h' ψ ∧ (I, oI) ∈ ψ ∧ (C, oC) ∈ ψ ∧ (D, oD) ∈ ψ ∧ S (ψ.filter fun p => decide (p.1 ≠ I ∧ p.1 ≠ C ∧ p.1 ≠ D)) ∧ R y (ψ.filter fun p => decide (p.1 ≠ I ∧ p.1 ≠ C ∧ p.1 ≠ D))
theorem EltEnd.comp {s₁ : Shared} {I : Addr} {oI : Obj} {C : Addr} {oC : Obj} {D : Addr} {oD : Obj} {R R' : Value → Led → Prop} {y : Value} {s₂ : Shared} (h : EltEnd h₀ L m s₁ I oI C oC D oD S R y s₂) (hr : ∀ y ψ, R y ψ → R' y ψ) :
    CompEnd h₀ L m s₁ I oI C oC D oD S R' y s₂ := by
  obtain ⟨h', tk, ψ, e, F, N, h1, h2, h3, hS, hR⟩ := h
  refine ⟨h', tk, _, e, F, fun p hp => ?_, Off3.of fun p hp => of_decide_eq_true (List.mem_filter.mp hp).2, hS, hr _ _ hR⟩
  rcases List.mem_cons.mp hp with rfl | hp
  · exact N _ h1
  · rcases List.mem_cons.mp hp with rfl | hp
    · exact N _ h2
    · rcases List.mem_cons.mp hp with rfl | hp
      · exact N _ h3
      · exact N _ (List.mem_filter.mp hp).1
theorem rest_inv {n : Nat} (R : Nat → List Value → Led → Prop)
    (turn : ∀ i v ys news I oI C oC D m₂ h tk (E' : Value → Shared → Prop), i < n → R i ys news → P i v → NsObj oC m₂ → m₂ x = some v → Fr h₀ L h m → News h₀ L h ((I, oI) :: (C, oC) :: (D, lst ys) :: news) → (∀ p ∈ news, p.1 ≠ I ∧ p.1 ≠ C ∧ p.1 ≠ D) → ((@Ne Nat I C) ∧ (@Ne Nat I D) ∧ (@Ne Nat C D)) →
      wpAny (model prog w) A (eval elt (compEnvC scope cl C env)) (EltEnd h₀ L m { s with heap := h, toks := tk } I oI C oC D (lst ys) S (fun y ψ => R (i + 1) (ys ++ [y]) ψ)) E' { s with heap := h, toks := tk })
    (fin : ∀ ys ψ, R n ys ψ → Fin ys ψ) : ∀ (k i : Nat) (ys : List Value) (news : Led), i + k = n → R i ys news → CompRest prog w A h₀ L m env elt x scope cl s S P Fin k i ys news := by
  intro k
  induction k with
  | zero =>
    intro i ys news hi hR
    obtain rfl : i = n := by omega
    exact CompRest.zero (fin ys news hR)
  | succ k ih =>
    intro i ys news hi hR
    refine CompRest.succ fun v I oI C oC D m₂ h tk E' hP hC hx F N off ne => ?_
    refine wpAny_mono (turn i v ys news I oI C oC D m₂ h tk E' (by omega) hR hP hC hx F N off.mem ne) (fun y s₂ hq => ?_) fun _ _ e => e
    exact hq.comp fun y ψ hr => ih (i + 1) _ ψ (by omega) hr
theorem rest_invT {n : Nat} (R : Nat → List Value → Led → Prop)
    (turn : ∀ i v ys news I oI C oC D m₂ h tk (E' : Value → Shared → Prop), i < n → R i ys news → P i v → NsObj oC m₂ → m₂ x = some v → Fr h₀ L h m → News h₀ L h ((I, oI) :: (C, oC) :: (D, lst ys) :: news) → (∀ p ∈ news, p.1 ≠ I ∧ p.1 ≠ C ∧ p.1 ≠ D) → ((@Ne Nat I C) ∧ (@Ne Nat I D) ∧ (@Ne Nat C D)) →
      wpAny (model prog w) A (isTrue ct (compEnvC scope cl C env) (eval ct (compEnvC scope cl C env))) (fun ok s' => if ok = true then
        wpAny (model prog w) A (eval elt (compEnvC scope cl C env)) (EltEnd h₀ L m { s with heap := h, toks := tk } I oI C oC D (lst ys) S (fun y ψ => R (i + 1) (ys ++ [y]) ψ)) E' s'
        else EltEnd h₀ L m { s with heap := h, toks := tk } I oI C oC D (lst ys) S (fun _ ψ => R (i + 1) ys ψ) Value.none s') E' { s with heap := h, toks := tk })
    (fin : ∀ ys ψ, R n ys ψ → Fin ys ψ) : ∀ (k i : Nat) (ys : List Value) (news : Led), i + k = n → R i ys news → CompRestT prog w A h₀ L m env ct elt x scope cl s S P Fin k i ys news := by
  intro k
  induction k with
  | zero =>
    intro i ys news hi hR
    obtain rfl : i = n := by omega
    exact CompRestT.zero (fin ys news hR)
  | succ k ih =>
    intro i ys news hi hR
    refine CompRestT.succ fun v I oI C oC D m₂ h tk E' hP hC hx F N off ne => ?_
    refine wpAny_mono (turn i v ys news I oI C oC D m₂ h tk E' (by omega) hR hP hC hx F N off.mem ne) (fun b s₂ hq => ?_) fun _ _ e => e
    cases b with
    | true =>
      simp only [if_true] at hq ⊢
      exact wpAny_mono hq (fun y s₃ hr => hr.comp fun y ψ hr => ih (i + 1) _ ψ (by omega) hr) fun _ _ e => e
    | false =>
      simp only [Bool.false_eq_true, if_false] at hq ⊢
      exact hq.comp fun y ψ hr => ih (i + 1) _ ψ (by omega) hr
end

theorem off_Letters : True := by w_top off; exact trivial
set_option maxHeartbeats 2000000 in
theorem letters_spec {φ : Led} {l : Addr} {lim : Int} {tl : Tok} (hG : Figs φ l) (h0 : 0 < lim) (h1 : lim ≤ 100) :
    Spec 199 [.ref l, .int lim tl] 3 φ (fun r ψ => (∃ y t, r = .str y t ∧ ((tx y).length : Int) < lim) ∧ Figs ψ l ∧ Keep φ [l] ψ ∧ Soft φ ψ) := by
  walk_at "my_fill"
  refine' enterC ?k1 ?k2 ?k3 ?k4 ?k9 ?k5 ?k6 ?k7 ?_
  case k1 => (intro w; k_is)
  case k2 => (intro w; k_is)
  case k3 => exact rfl
  case k4 => exact rfl
  case k5 => exact rfl
  case k6 => exact rfl
  case k7 => exact rfl
  case k9 => decide +kernel
  intro prog w p loose mean mg mb dp un gd outer A₀ base g L s cells B F X N Y hlt Tp hdp hun
  k_fold
  obtain ⟨oc, rfl, hoc⟩ := CellsAre.one Y
  rw [List.cons_append, List.nil_append] at N
  clear Y
  have hoc' : oc.data = .cell (some (.ref l)) := hoc
  iterate 7 walk1
  refine LCg.ListComp_U (F₀ := by k_asm) (by with_unfolding_all rfl) (by decide) (by rfl) (by decide) (by rfl) ?_
  iterate 16 walk1
  rename_i _ _ φ₁ _ _ v tv hv0 hv1 hG₁ hk₁ hs₁ _ _ _ _ _ _ hrng F₁ N₁ _
  have hcm : (L + 1, oc) ∈ φ₁ := hk₁ _ mem_hd (by
    intro e
    have e' : L + 1 = l := List.mem_singleton.mp e
    obtain ⟨us, k, ns, hm, _⟩ := hG
    have h : l < L := hlt _ hm
    rw [← e'] at h
    exact Nat.lt_irrefl _ (Nat.lt_of_succ_lt h))
  have hkφ : Keep φ [l] φ₁ := fun p hp hn => hk₁ p (mem_tl hp) hn
  refine LCg.CompSrc.range (n := v.toNat) rfl F₁ N₁ hrng (range_small (by omega) (by omega) (by omega) (by omega)) (by rw [rangeSize_nat]; simp) (by rw [sizeLine_eq]; omega) fun gh => ?_
  refine rest_inv (n := v.toNat) (fun i ys ψ => (∃ ss, StrsAre ys ss ∧ (ss.map (·.length)).sum = i) ∧ Figs ψ l ∧ (L + 1, oc) ∈ ψ ∧ Keep φ [l] ψ ∧ Soft φ ψ) ?_ ?_ v.toNat 0 [] φ₁ (by omega) ⟨⟨[], .nil, rfl⟩, hG₁, hcm, hkφ, (Soft.of fun p hp => mem_tl hp).trans hs₁⟩
  · rintro i u ys ψ I oI C oC D m₂ h tk E' hi ⟨⟨ss, hss, hsum⟩, hG₂, hcm₂, hk₂, hs₂⟩ ⟨tu, rfl⟩ hC hx F₂ N₂ off ne
    k_fold
    have U₂ := uniq_of N₂
    repeat' walk1
    rename_i φ₃ F₃ N₃ z tz hz0 hz1 hG₃ hk₃ _ hD₃ hitem
    obtain ⟨us, k, ns, hml, _⟩ := id hG₂
    obtain ⟨o1, o2, o3⟩ := off _ hml
    have off' : ∀ p ∈ ψ, p.1 ≠ l → p ∈ φ₃.filter fun p => decide (p.1 ≠ I ∧ p.1 ≠ C ∧ p.1 ≠ D) := fun p hp hn => List.mem_filter.mpr ⟨hk₃ _ (mem_tl (mem_tl (mem_tl hp))) (by simpa using hn), decide_eq_true (off p hp)⟩
    refine ⟨_, _, φ₃, rfl, F₃, N₃, hk₃ _ mem_hd (by simpa using Ne.symm o1), hk₃ _ (mem_tl mem_hd) (by simpa using Ne.symm o2), hk₃ _ (mem_tl (mem_tl mem_hd)) (by simpa using Ne.symm o3), trivial, ⟨ss ++ [Txt.item (Str.ofString "ab\n") z], strsSnoc hss, ?_⟩, ?_, off' _ hcm₂ ?_, fun p hp hn => off' p (hk₂ p hp hn) (by simpa using hn), hs₂.trans (hD₃.soft U₂ (fun p hp => mem_tl (mem_tl (mem_tl hp))) (fun o ho => ?_) fun p hp h => List.mem_filter.mpr ⟨h, decide_eq_true (off p hp)⟩)⟩
    · rw [List.map_append, List.sum_append, hsum]; simp [hitem]
    · obtain ⟨us', k', ns', g1, g2, g3⟩ := hG₃
      exact ⟨us', k', ns', List.mem_filter.mpr ⟨g1, decide_eq_true ⟨o1, o2, o3⟩⟩, g2, g3⟩
    · intro e
      have e' : L + 1 = l := e
      obtain ⟨us, k, ns, hm, _⟩ := hG
      have h : l < L := hlt _ hm
      rw [← e'] at h
      exact Nat.lt_irrefl _ (Nat.lt_of_succ_lt h)
    · rcases List.mem_cons.mp ho with e | ho
      · exact absurd (congrArg Prod.fst e) o1
      · rcases List.mem_cons.mp ho with e | ho
        · exact absurd (congrArg Prod.fst e) o2
        · rcases List.mem_cons.mp ho with e | ho
          · exact absurd (congrArg Prod.fst e) o3
          · exact ho
  · rintro ys ψ ⟨⟨ss, hss, hsum⟩, hG₂, hcm₂, hk₂, hs₂⟩
    intro D h tk F₂ N₂ o1
    have hDm : (D, listOf ys.toArray ys.length) ∈ (D, LCg.lst ys) :: ψ := mem_hd
    have hs2 : (ss.map (·.length)).sum ≤ 16777216 := by omega
    repeat' walk1
    rename Fr _ _ _ _ => F₉
    rename News _ _ _ _ => N₉
    dsimp only
    refine BodyEnd.ret F₉ N₉ ⟨⟨_, _, rfl, ?_⟩, figs_tl hG₂, hk₂.cons, hs₂.trans (Soft.of fun p hp => mem_tl hp)⟩
    rw [tx_len]
    have h1 := StrLaws.join_length_le (Str.ofString "") ss
    have h2 : Txt.join (Str.ofString "") ss = Str.join (Str.ofString "") ss := StrLaws.glued_eq_join _ _
    rw [h2]
    rw [show (Str.ofString "").length = 0 by decide +kernel] at h1
    omega

theorem off_Figures : True := by w_top off; exact trivial
/-- a def's contract where the base bears the script -/
def SpecH (Hp : Heap → Prop) (f : Addr) (args : List Value) (need : Nat) (φ : Led) (Post : Value → Led → Prop) : Prop :=
  ∀ (prog : Program) (w : World) (p : Program) (loose : List Str) (mean : ExcName → Option Value) (mg mb : Str → Option Value) (dp un : Nat) (gd : Option (List Code)) (cn : Str) (cs : Scope) (a : Addr) (ccd : Value) (cl : List (Str × Addr)) (outer : List Env) (A₀ : Around) (base h₀ : Heap) (L : Addr) (m : Str → Option Value) (s : Shared)
    (Q E : Value → Shared → Prop),
    Hp h₀ → Below A₀ base outer h₀ → Fr h₀ L s.heap m → (Mine.hd.heap_39 w.params).In h₀ → News h₀ L s.heap φ → Top p loose mean mg mb h₀ → cs.kind = .function → dp + need < 600 → un + 100 * need < 9000 →
    (∀ r h' tk φ', Fr h₀ L h' m → News h₀ L h' φ' → Post r φ' → Q r { s with heap := h', toks := tk }) →
    wpAny (model prog w) (ktrTop dp un gd cn cs L a ccd cl outer) (call (.ref f) args) Q E s

theorem enterH {Hp : Heap → Prop} (hHp : ∀ h h' : Heap, (∀ b o, h.get? b = some o → h'.get? b = some o) → Hp h → Hp h') {f : Addr} {args : List Value} {need : Nat} {φ : Led} {Post : Value → Led → Prop} {name qual : Str} {params : Arguments} {body : List Stmt} {scope : Scope} {dV kV doc pm cdv ct oc : Value} {an od : Option Addr} {osl : Array (Option Value)} {binds : List (Str × Value)}
    (ho : ∀ w : World, (Mine.hd.heap_39 w.params).lookup f = some ⟨oc, od, .func (fnOf name qual params body scope dV kV doc pm an cdv ct), osl⟩) (hcd : ∀ w : World, codeIn (Mine.hd.heap_39 w.params) cdv qual = true)
    (hbind : bindArgs (fnOf name qual params body scope dV kV doc pm an cdv ct) ⟨args, []⟩ = pure binds) (hloc : ∀ y ∈ binds, scope.names.lookup y.1 = some .local)
    (hco : scope.isCoroutine = false) (hgen : scope.isGenerator = false) (hk : scope.kind = .function) (hcell : ∀ x ∈ scope.names, x.2 ≠ .cell)
    (h : ∀ {prog : Program} {w : World} {p : Program} {loose : List Str} {mean : ExcName → Option Value} {mg mb : Str → Option Value} {dp un : Nat} {gd : Option (List Code)} {outer : List Env} {A₀ : Around} {base g : Heap} {L : Addr} {s : Shared},
      Hp g → Below A₀ base outer g → Fr g L s.heap (fun y => binds.reverse.lookup y) → (Mine.hd.heap_39 w.params).In g → News g L s.heap φ → Top p loose mean mg mb g → dp + need < 601 → un + 100 * need < 9003 →
      wpAny (model prog w) (ktrTop dp un gd qual scope L f cdv [] outer) (execs body (envOf qual scope L f cdv)) (BodyEnd g L Post s) (fun _ _ => False) s) :
    SpecH Hp f args need φ Post := by
  intro prog w p loose mean mg mb dp un gd cn cs a ccd cl outer A₀ base h₀ L m s Q E hp B F X N T hk' hdp hun hret
  refine wpAny_call ?_
  refine code_def B F X N T rfl rfl hk' (ho w) (hcd w) ?_ (BindsTo.of_eq hbind) hloc ?_ hco hgen hk hcell
  · show dp < recursionLimit
    unfold recursionLimit; omega
  · intro g L' h₁ FG F' N' B' X' T'
    refine wpAny_noRaise ?_
    refine wpAny_mono (h (dp := dp + 1) (un := un + 3) (gd := gd) (outer := envX cn cs L a ccd cl :: outer) (s := { s with heap := h₁, toks := s.toks + binds.length }) (hHp _ _ FG.keep hp) B' F' X' N' T' (by omega) (by omega)) (fun fl s' he => ?_) fun _ _ x => x
    obtain ⟨h', tk, m', φ', rfl, F₂, N₂, hp⟩ := he
    exact leaveK_ F₂ N₂ fun F₃ N₃ => hret _ _ _ _ F₃ N₃ hp

set_option maxHeartbeats 400000 in
theorem figures_spec {φ : Led} {a : Addr} {vs : List Value} {ns : List Int} (hI : IntsAre vs ns) (hz : ns.length ≤ 1000) :
    SpecH (fun h => h.IsList a vs.toArray) 187 [.ref a] 1 φ (fun r ψ => ∃ l, r = .ref l ∧ Figs ψ l ∧ Keep φ [] ψ ∧ ∀ p ∈ φ, p.1 ≠ l) := by
  walk_at "my_fill"
  refine' enterH ?kh ?k1 ?k2 ?k3 ?k4 ?k5 ?k6 ?k7 ?k8 ?_
  case kh => exact fun h h' hk ⟨o, ho, r⟩ => ⟨o, hk _ _ ho, r⟩
  case k1 => (intro w; k_is)
  case k2 => (intro w; k_is)
  case k3 => exact rfl
  case k4 => exact locs rfl
  case k5 => exact rfl
  case k6 => exact rfl
  case k7 => exact rfl
  case k8 => decide
  intro prog w p loose mean mg mb dp un gd outer A₀ base g L s hlist B F X N Tp hdp hun
  k_fold
  have hvl := hI.length
  repeat' (first | (refine wpAny_For ?_) | walk1)
  rename_i l _ l1 _ D ws _ F' N' lD hIw hcw hlw hwl
  have hfr : ∀ p ∈ φ, p.1 ≠ l := fun p hp => Nat.ne_of_lt (l1 p hp)
  have hw60 : ws.length ≤ 60 := by rw [hwl, List.length_take]; omega
  refine iter_list (c := 0) (vs := ws) (fun i m ψ => m (Str.ofString "found") = some (.ref l) ∧ Keep ((D, listOf ws.toArray 0) :: (l, listOf #[] 0) :: φ) [l] ψ ∧ ∃ us k ms, us.length ≤ 11 * i ∧ (l, listOf (List.toArray us) k) ∈ ψ ∧ IntsAre us ms) rfl F' N' ⟨rfl, Keep.refl _ _, [], 0, [], Nat.zero_le _, mem_tl mem_hd, .nil⟩ ?_ ?_ ?_ ?_ (fun _ _ _ _ _ _ _ _ hq => go_name hq)
  · rintro i m ψ ψ' hs ⟨h2, h5, us, k, ms, h6, h7, h8⟩
    exact ⟨h2, fun p hp hn => hs p (h5 p hp hn) (.inr hp), us, k, ms, h6, hs _ h7 (.inl rfl), h8⟩
  · rintro i m ψ ⟨h2, h5, _⟩
    refine h5 _ mem_hd ?_
    have := lD (l, listOf #[] 0) mem_hd
    intro e
    have e' : D = l := List.mem_singleton.mp e
    rw [e'] at this
    exact Nat.lt_irrefl _ this
  · rintro i v m₁ ψ I Io h tk hv ⟨h2, h5, us, k, ms, h6, h7, h8⟩ hI₀ hI' F₂ N₂
    obtain ⟨n, t, rfl, _⟩ := IntsAre.at hIw _ _ hv
    have hi := lt_of_get hv
    have hlI : l ≠ I := hI₀ _ (mem_tl mem_hd)
    have hzu : us.length ≤ 1000 := by omega
    refine assign1 (fr_put1 h2 F₂) N₂ fun h₃ tk₃ F₃ N₃ => ?_
    k_fold
    clear h2 F₂ N₂ F' N'
    repeat' (first | (refine wpAny_For ?_) | walk1)
    all_goals (
      rename IsRange _ _ _ _ _ _ _ _ => hrng
      rename Fr _ _ _ _ => F₄
      rename News _ _ _ _ => N₄
      have hI₄ : ∀ o, (I, Io) ∈ put l o ((I, Io) :: ψ) := fun o => put_of mem_hd (Ne.symm hlI)
      refine iter_range (n := 10) (fun j m ψ' => m (Str.ofString "found") = some (.ref l) ∧ (∃ f tf, m (Str.ofString "figure") = some (.int f tf)) ∧ Keep ((D, listOf ws.toArray 0) :: (l, listOf #[] 0) :: φ) [l] ψ' ∧ (I, Io) ∈ ψ' ∧
        ∃ us k ms, us.length ≤ 11 * i + 1 + j ∧ (l, listOf (List.toArray us) k) ∈ ψ' ∧ IntsAre us ms) rfl hrng (by decide) (by decide) F₄ N₄ ⟨rfl, ⟨_, _, rfl⟩, Keep.put h5.cons (fun p hp hn e => hn (by rw [e]; exact List.Mem.head _)), hI₄ _, _, _, _, by rw [List.length_append, List.length_singleton]; omega, put_self _ _ _, IntsAre.append h8 (.cons _ _ .nil)⟩ ?_ ?_ ?_
      · rintro j m ψ₂ ψ₃ hs ⟨g1, g2, g3, g4, us₂, k₂, ms₂, g5, g6, g7⟩
        exact ⟨g1, g2, fun p hp hn => hs p (g3 p hp hn) (.inr (put_of (mem_tl (h5 p hp hn)) (by simpa using hn))), hs _ g4 (.inr (hI₄ _)), us₂, k₂, ms₂, g5, hs _ g6 (.inl rfl), g7⟩
      · rintro j tj m₂ ψ₂ I₂ Io₂ h₅ tk₅ hj ⟨g1, ⟨f, tf, g2⟩, g3, g4, us₂, k₂, ms₂, g5, g6, g7⟩ hI₂ hI₂' F₅ N₅
        have hlI₂ : l ≠ I₂ := hI₂ _ (put_self _ _ _)
        have hzu₂ : us₂.length ≤ 2000 := by omega
        refine assign1 (fr_put2 g1 g2 F₅) N₅ fun h₆ tk₆ F₆ N₆ => ?_
        k_fold
        clear g1 g2 F₅ N₅ F₄ N₄
        repeat' walk1
        · rename Fr _ _ _ _ => F₉
          rename News _ _ _ _ => N₉
          exact ⟨_, _, _, _, rfl, F₉, N₉, put_of mem_hd (Ne.symm hlI₂), rfl, ⟨_, _, rfl⟩, Keep.put g3.cons (fun p hp hn e => hn (by rw [e]; exact List.Mem.head _)), put_of (mem_tl g4) (Ne.symm hlI), _, _, _, by rw [List.length_append, List.length_singleton]; omega, put_self _ _ _, IntsAre.append g7 (.cons _ _ .nil)⟩
        · rename Fr _ _ _ _ => F₉
          rename News _ _ _ _ => N₉
          exact ⟨_, _, _, _, rfl, F₉, N₉, mem_hd, rfl, ⟨_, _, rfl⟩, g3.cons, mem_tl g4, us₂, k₂, ms₂, by omega, mem_tl g6, g7⟩
      · rintro m₂ ψ₂ h₅ tk₅ ⟨g1, g2, g3, g4, us₂, k₂, ms₂, g5, g6, g7⟩ F₅ N₅
        repeat' walk1
        exact ⟨_, _, _, _, rfl, F₅, N₅, g4, g1, g3, us₂, k₂, ms₂, by omega, g6, g7⟩)
  · rintro m₁ ψ h tk ⟨h2, h5, us, k, ms, h6, h7, h8⟩ F₂ N₂
    have F₃ := fr_put1 h2 F₂
    clear F₂ h2 F' N'
    have hzu : us.length ≤ 1000 := by omega
    have h8l := h8.length
    repeat' walk1
    rename Fr _ _ _ _ => F₉
    rename News _ _ _ _ => N₉
    rename (∀ p ∈ ψ, _) => lD'
    rename IntsAre _ (List.take _ ms) => hIr
    rename (_ = (List.take _ ms).length) => hWr
    dsimp only
    have hm : ∀ p ∈ φ, p ∈ ψ := fun p hp => h5 p (mem_tl (mem_tl hp)) (by simpa using hfr p hp)
    refine BodyEnd.ret F₉ N₉ ⟨_, rfl, ⟨_, _, _, put_self _ _ _, hIr.reverse, by rw [List.length_reverse]; omega⟩, fun p hp _ => put_of (mem_tl (hm p hp)) (Nat.ne_of_lt (lD' _ (hm p hp))), fun p hp => Nat.ne_of_lt (lD' _ (hm p hp))⟩
theorem SpecH.use {Hp : Heap → Prop} {f : Addr} {args : List Value} {need : Nat} {φ : Led} {Post : Value → Led → Prop} (sp : SpecH Hp f args need φ Post) {prog : Program} {w : World} {p : Program} {loose : List Str} {mean : ExcName → Option Value} {mg mb : Str → Option Value} {dp un : Nat} {gd : Option (List Code)} {cn : Str} {cs : Scope} {a : Addr} {ccd : Value} {cl : List (Str × Addr)} {outer : List Env} {A₀ : Around} {base h₀ : Heap} {L : Addr} {m : Str → Option Value} {s : Shared}
    {Q E : Value → Shared → Prop} (hp : Hp h₀) (B : Below A₀ base outer h₀) (F : Fr h₀ L s.heap m) (X : (Mine.hd.heap_39 w.params).In h₀) (N : News h₀ L s.heap φ) (T : Top p loose mean mg mb h₀) (hk : cs.kind = .function) (hd : dp + need < 600) (hu : un + 100 * need < 9000)
    (h : ∀ r h' tk φ', Fr h₀ L h' m → News h₀ L h' φ' → Post r φ' → Q r { s with heap := h', toks := tk }) :
    wpAny (model prog w) (ktrTop dp un gd cn cs L a ccd cl outer) (call (.ref f) args) Q E s := sp _ _ _ _ _ _ _ _ _ _ _ _ _ _ _ _ _ _ _ _ _ _ _ _ hp B F X N T hk hd hu h
section
variable {M : Model} {A : Around} {E : Value → Shared → Prop} {s : Shared} {h₀ : Heap} {L a c : Addr} {m : Str → Option Value} {φ : Led} {cn : Str} {cs : Scope} {ccd : Value} {cl : List (Str × Addr)} {x : Str} {v : Value} {o : Obj} {v₀ : Option Value}
theorem storeC_led {Q : Unit → Shared → Prop} (F : Fr h₀ L s.heap m) (N : News h₀ L s.heap φ) (hc : cl.lookup x = some c) (hm : (c, o) ∈ φ) (hd : o.data = .cell v₀)
    (h : ∀ h' o', Fr h₀ L h' m → News h₀ L h' (put c o' φ) → o'.data = .cell (some v) → Q () { s with heap := h' })
    (hk : cs.kind = .function := by rfl) (hx : (envX cn cs L a ccd cl).kindOf x = some .cell := by rfl) : wpAny M A (storeName (envX cn cs L a ccd cl) x v) Q E s := by
  have hmem := N (c, o) hm
  refine wpAny_storeName_cell hk hx hc ⟨o, hmem.1, hd⟩ fun h' hv hs => ?_
  obtain ⟨o', ho', hd'⟩ := hv
  exact h h' o' (F.change hs hmem.2.1 hmem.2.2) (newsPut N hm hs ho') hd'
end

theorem off_FirstPut : True := by w_top off; exact trivial
theorem slice_occ {y p : Str} {s : Nat} {j : Int} (hs : s ≤ (tx y).length) (hj : j = (s : Int) + p.length) : (Txt.slice y (some (s : Int)) (some j) == p) = true ↔ occ (tx y) (tx p) s := by
  subst hj
  have hl := tx_len y
  have hp := tx_len p
  have e := slice_any (x := y) (i := (s : Int)) (j := (s : Int) + p.length) (by omega) (by omega) (by omega)
  rw [Int.toNat_natCast, show ((s : Int) + p.length - s).toNat = (tx p).length by omega] at e
  rw [beq_iff_eq]
  unfold occ
  constructor
  · intro h; rw [← e, h]
  · intro h; exact tx_inj (e.trans h)
theorem slice_occ_not {y p : Str} {s : Nat} {j : Int} (hs : s ≤ (tx y).length) (hj : j = (s : Int) + p.length) : (Txt.slice y (some (s : Int)) (some j) == p) = false ↔ ¬ occ (tx y) (tx p) s := by
  rw [← slice_occ hs hj, Bool.not_eq_true]
set_option maxHeartbeats 1000000 in
theorem lfirst_spec {φ : Led} {y p : Str} {ty tp tb : Tok} {b : Int} (h0 : 0 ≤ b) (h1 : b ≤ (tx y).length) (hz : (tx y).length ≤ 100) (hz2 : (tx p).length ≤ 100) :
    Spec 206 [.str y ty, .str p tp, .int b tb] 1 φ (fun r ψ => (∃ v t, r = .int v t ∧ First (tx y) (tx p) b.toNat v) ∧ Keep φ [] ψ) := by
  walk_at "my_fill"
  walk_at "my_enter"
  intro prog w p' loose mean mg mb dp un gd outer A₀ base g L s B F X N Tp hdp hun
  k_fold
  have hyl := tx_len y
  have hpl := tx_len p
  repeat' (first | (refine wpAny_For ?_) | walk1)
  rename IsRange _ _ _ _ _ _ _ _ => hrng
  rename Fr _ _ _ _ => F₁
  rename News _ _ _ _ => N₁
  refine iter_range (n := ((y.length : Int) - p.length + 1 - b).toNat) (fun i m ψ => m (Str.ofString "chars") = some (.str y ty) ∧ m (Str.ofString "pattern") = some (.str p tp) ∧ (∀ s', b.toNat ≤ s' → s' < b.toNat + i → ¬ occ (tx y) (tx p) s') ∧ Keep φ [] ψ) rfl hrng (range_small (by omega) (by omega) (by omega) (by omega)) (by rw [rangeSize_nat]) F₁ N₁ ⟨rfl, rfl, fun s' h1 h2 => absurd h1 (by omega), Keep.refl _ _⟩ ?_ ?_ ?_
  · rintro i m ψ ψ' hs ⟨g1, g2, g3, g4⟩
    exact ⟨g1, g2, g3, fun p hp hn => hs p (g4 p hp hn) (.inr hp)⟩
  · rintro i ti m₁ ψ I Io h tk hi ⟨g1, g2, g3, g4⟩ hI hI' F₂ N₂
    refine assign1 (fr_put2 g1 g2 F₂) N₂ fun h₃ tk₃ F₃ N₃ => ?_
    k_fold
    clear g1 g2 F₂ N₂ F₁ N₁
    obtain ⟨c, hc⟩ : ∃ c : Nat, b = (c : Int) := ⟨b.toNat, by omega⟩
    subst hc
    rw [Int.toNat_natCast] at g3
    rw [show ((c : Int) + (i : Int)) = ((c + i : Nat) : Int) by omega] at F₃
    have hcl : c + i ≤ (tx y).length := by omega
    repeat' walk1
    · rename (_ = true) => hcc
      rename Fr _ _ _ _ => F₉
      rename News _ _ _ _ => N₉
      rw [slice_occ hcl rfl] at hcc
      refine (show BodyEnd g L (fun r ψ => (∃ v t, r = .int v t ∧ First (tx y) (tx p) (c : Int).toNat v) ∧ Keep φ [] ψ) s _ _ from BodyEnd.ret F₉ N₉ ⟨⟨_, _, rfl, ?_⟩, g4.cons⟩)
      rw [Int.toNat_natCast]
      exact .inl ⟨c + i, rfl, by omega, hcc, fun s' k1 k2 => g3 s' k1 k2⟩
    · rename (_ = false) => hcc
      rename Fr _ _ _ _ => F₉
      rename News _ _ _ _ => N₉
      rw [slice_occ_not hcl rfl] at hcc
      refine ⟨_, _, _, _, rfl, F₉, N₉, mem_hd, rfl, rfl, fun s' k1 k2 => ?_, g4.cons⟩
      rw [Int.toNat_natCast] at k1 k2
      by_cases e : s' = c + i
      · rw [e]; exact hcc
      · exact g3 s' k1 (by omega)
  · rintro m₁ ψ h tk ⟨g1, g2, g3, g4⟩ F₂ N₂
    repeat' walk1
    rename Fr _ _ _ _ => F₉
    rename News _ _ _ _ => N₉
    dsimp only
    refine BodyEnd.ret F₉ N₉ ⟨⟨_, _, rfl, .inr ⟨rfl, fun s' k1 ho => ?_⟩⟩, g4⟩
    by_cases e : s' < b.toNat + ((y.length : Int) - p.length + 1 - b).toNat
    · exact g3 s' k1 e ho
    · have := congrArg List.length ho
      rw [List.length_take, List.length_drop] at this
      by_cases hp0 : (tx p).length = 0
      · refine g3 b.toNat (Nat.le_refl _) (by omega) ?_
        rw [List.length_eq_zero_iff.mp hp0]
        rfl
      · omega

set_option maxHeartbeats 1000000 in
theorem lput_spec {φ : Led} {y p z : Str} {ty tp tz : Tok} (hz : (tx y).length ≤ 100) (hz2 : (tx p).length ≤ 100) (hz3 : (tx z).length ≤ 3) :
    Spec 213 [.str y ty, .str p tp, .str z tz] 1 φ (fun r ψ => (∃ t yo to f tf n, r = .ref t ∧ (t, tupOf [.str yo to, .int ((f : Nat) : Int) tf] n) ∈ ψ ∧ Rep (tx p) (tx z) (tx y) (tx yo) f) ∧ Keep φ [] ψ) := by
  walk_at "my_fill"
  walk_at "my_enter"
  intro prog w p' loose mean mg mb dp un gd outer A₀ base g L s B F X N Tp hdp hun
  k_fold
  have hyl := tx_len y
  have hpl := tx_len p
  have hzl := tx_len z
  walk_at "my_go"
  rename_i l _ l1 _ _ _ F₁ N₁
  have hfr : ∀ p ∈ φ, p.1 ≠ l := fun p hp => Nat.ne_of_lt (l1 p hp)
  refine While_inv2 (fun n m ψ => ∃ spot many us k ss ts tm, m (Str.ofString "chars") = some (.str y ty) ∧ m (Str.ofString "pattern") = some (.str p tp) ∧ m (Str.ofString "added") = some (.str z tz) ∧ m (Str.ofString "pieces") = some (.ref l) ∧ m (Str.ofString "spot") = some (.int ((spot : Nat) : Int) ts) ∧ m (Str.ofString "many") = some (.int ((many : Nat) : Int) tm) ∧
    n = (tx y).length - spot ∧ spot ≤ (tx y).length ∧ (l, listOf (List.toArray us) k) ∈ ψ ∧ StrsAre us ss ∧ us.length ≤ spot ∧ (ss.map (·.length)).sum ≤ 3 * spot ∧ (∀ out k', Rep (tx p) (tx z) ((tx y).drop spot) out k' → Rep (tx p) (tx z) (tx y) ((ss.map tx).flatten ++ out) (many + k')) ∧ Keep φ [] ψ) (n₀ := (tx y).length) F₁ N₁
    ⟨0, 0, [], 0, [], _, _, rfl, rfl, rfl, rfl, rfl, rfl, rfl, Nat.zero_le _, mem_hd, .nil, Nat.le_refl _, Nat.le_refl _, fun out k' h => by simpa using h, (Keep.refl _ _).cons⟩ ?_ (by passes_own)
  rintro n m ψ h₂ tk₂ F₂ N₂ ⟨spot, many, us, k, ss, ts, tm, g1, g2, g3, g4, g5, g6, hn, hsp, hm, hss, hul, hsum, hR, hk⟩
  have F₃ := fr_put6 g1 g2 g3 g4 g5 g6 F₂
  clear g1 g2 g3 g4 g5 g6 F₂ F₁ N₁
  have hu := uniq_of N₂
  have hzu : us.length ≤ 1000 := by omega
  by_cases hlt : spot < (tx y).length
  · have hd1 : (tx y).drop spot = (tx y)[spot] :: (tx y).drop (spot + 1) := List.drop_eq_getElem_cons hlt
    have hit : tx (Txt.item y (spot : Int)) = [(tx y)[spot]] := by rw [item_sign (x := (tx y)[spot]) (by omega) (by rw [Int.toNat_natCast]; exact List.getElem?_eq_getElem hlt)]
    repeat' walk1
    · rename ((_ != _) = true) => hc1
      rename ((_ == _) = true) => hc2
      rename Fr _ _ _ _ => F₉
      rename News _ _ _ _ => N₉
      have hpne : tx p ≠ [] := fun e => by
        have : p = Str.ofString "" := tx_inj (by rw [e]; decide +kernel)
        rw [this] at hc1
        simp at hc1
      have hpos : 0 < (tx p).length := List.length_pos_iff.mpr hpne
      rw [slice_occ hsp rfl] at hc2
      have hol := occ_len hc2 hpne
      refine ⟨_, _, _, _, (tx y).length - (spot + p.length), rfl, F₉, N₉, by omega, spot + p.length, many + 1, _, _, ss ++ [z], _, _, rfl, rfl, rfl, rfl, by rw [show ((spot + p.length : Nat) : Int) = (spot : Int) + (p.length : Int) by omega]; rfl, by rw [show ((many + 1 : Nat) : Int) = (many : Int) + 1 by omega]; rfl, rfl, by omega, put_self _ _ _, strsSnoc hss, ?_, ?_, ?_, Keep.put hk fun p hp _ => hfr p hp⟩
      · rw [List.length_append, List.length_singleton]; omega
      · rw [List.map_append, List.sum_append]; simp only [List.map_cons, List.map_nil, List.sum_cons, List.sum_nil]; omega
      · intro out k' hr
        have ho : ((tx y)[spot] :: (tx y).drop (spot + 1)).take (tx p).length = tx p := by rw [← hd1]; exact hc2
        have hr' : Rep (tx p) (tx z) (((tx y)[spot] :: (tx y).drop (spot + 1)).drop (tx p).length) out k' := by
          rw [← hd1, List.drop_drop, hpl]; exact hr
        have h1 := Rep.hit hpne ho hr'
        rw [← hd1] at h1
        have h2 := hR _ _ h1
        rw [List.map_append, List.flatten_append, List.append_assoc]
        simp only [List.map_cons, List.map_nil, List.flatten_cons, List.flatten_nil, List.append_nil]
        rw [show many + 1 + k' = many + (k' + 1) by omega]
        exact h2
    · rename ((_ == _) = false) => hc2
      rw [slice_occ_not hsp rfl] at hc2
      have hno : ¬ (tx p ≠ [] ∧ ((tx y)[spot] :: (tx y).drop (spot + 1)).take (tx p).length = tx p) := fun e => hc2 (by unfold occ; rw [hd1]; exact e.2)
      rename Fr _ _ _ _ => F₉
      rename News _ _ _ _ => N₉
      refine ⟨_, _, _, _, (tx y).length - (spot + 1), rfl, F₉, N₉, by omega, spot + 1, many, _, _, ss ++ [Txt.item y (spot : Int)], _, _, rfl, rfl, rfl, rfl, by rw [show ((spot + 1 : Nat) : Int) = (spot : Int) + 1 by omega]; rfl, rfl, rfl, by omega, put_self _ _ _, strsSnoc hss, ?_, ?_, ?_, Keep.put hk fun p hp _ => hfr p hp⟩
      · rw [List.length_append, List.length_singleton]; omega
      · rw [List.map_append, List.sum_append]; simp only [List.map_cons, List.map_nil, List.sum_cons, List.sum_nil, len_item]; omega
      · intro out k' hr
        have h1 := Rep.miss (a := tx z) hno hr
        rw [← hd1] at h1
        have h2 := hR _ _ h1
        rw [List.map_append, List.flatten_append, List.append_assoc]
        simp only [List.map_cons, List.map_nil, List.flatten_cons, List.flatten_nil, List.append_nil]
        rw [hit]
        exact h2
    · rename ((_ != _) = false) => hc1
      rw [bne_eq_false_iff_eq] at hc1
      have hno : ¬ (tx p ≠ [] ∧ ((tx y)[spot] :: (tx y).drop (spot + 1)).take (tx p).length = tx p) := fun e => e.1 (by rw [hc1]; decide +kernel)
      rename Fr _ _ _ _ => F₉
      rename News _ _ _ _ => N₉
      refine ⟨_, _, _, _, (tx y).length - (spot + 1), rfl, F₉, N₉, by omega, spot + 1, many, _, _, ss ++ [Txt.item y (spot : Int)], _, _, rfl, rfl, rfl, rfl, by rw [show ((spot + 1 : Nat) : Int) = (spot : Int) + 1 by omega]; rfl, rfl, rfl, by omega, put_self _ _ _, strsSnoc hss, ?_, ?_, ?_, Keep.put hk fun p hp _ => hfr p hp⟩
      · rw [List.length_append, List.length_singleton]; omega
      · rw [List.map_append, List.sum_append]; simp only [List.map_cons, List.map_nil, List.sum_cons, List.sum_nil, len_item]; omega
      · intro out k' hr
        have h1 := Rep.miss (a := tx z) hno hr
        rw [← hd1] at h1
        have h2 := hR _ _ h1
        rw [List.map_append, List.flatten_append, List.append_assoc]
        simp only [List.map_cons, List.map_nil, List.flatten_cons, List.flatten_nil, List.append_nil]
        rw [hit]
        exact h2
  · have hs2 : (ss.map (·.length)).sum ≤ 16777216 := by omega
    repeat' walk1
    rename Fr _ _ _ _ => F₉
    rename News _ _ _ _ => N₉
    refine BodyEnd.ret F₉ N₉ ⟨⟨_, _, _, many, _, _, rfl, mem_hd, ?_⟩, hk.cons⟩
    rw [tx_join]
    have := hR [] 0 (by rw [List.drop_of_length_le (by omega)]; exact .nil)
    rw [List.append_nil, Nat.add_zero] at this
    exact this

theorem kw_51 : True := by
  (k_with "w call ref" => ((with_reducible show wpAny _ _ (call (Value.ref 206) _) _ _ _); (refine' Spec.use (lfirst_spec ?w_a ?w_b ?w_c ?w_c2) ?w_B ?w_F ?w_X ?w_N ?w_T ?w_k ?w_d ?w_u ?_; (case w_B => assumption); (case w_F => k_asm); (case w_X => assumption); (case w_N => k_asm); (case w_T => assumption); (case w_a => omega); (case w_b => omega); (case w_c => omega); (case w_c2 => omega); (case w_k => exact rfl); (case w_d => omega); (case w_u => omega); intro _ _ _ _ _ _ hr'; obtain ⟨⟨_, _, e', _⟩, _⟩ := hr'; subst e'; (try k_sweep))))
  exact trivial
theorem kw_52 : True := by
  (k_with "w call ref" => ((with_reducible show wpAny _ _ (call (Value.ref 213) _) _ _ _); (refine' Spec.use (lput_spec ?w_a ?w_b ?w_c) ?w_B ?w_F ?w_X ?w_N ?w_T ?w_k ?w_d ?w_u ?_; (case w_B => assumption); (case w_F => k_asm); (case w_X => assumption); (case w_N => k_asm); (case w_T => assumption); (case w_a => omega); (case w_b => omega); (case w_c => omega); (case w_k => exact rfl); (case w_d => omega); (case w_u => omega); intro _ _ _ _ _ _ hr'; obtain ⟨⟨_, _, _, _, _, _, e', _, _⟩, _⟩ := hr'; subst e'; (try k_sweep))))
  exact trivial
theorem kw_53 : True := by
  (k_with "w call ref" => ((with_reducible show wpAny _ _ (call (Value.ref 199) _) _ _ _); (refine' Spec.use (letters_spec ?w_G ?w_a ?w_b) ?w_B ?w_F ?w_X ?w_N ?w_T ?w_k ?w_d ?w_u ?_; (case w_B => assumption); (case w_F => k_asm); (case w_X => assumption); (case w_N => k_asm); (case w_T => assumption); (case w_G => walk_at "my_figs"); (case w_a => omega); (case w_b => omega); (case w_k => exact rfl); (case w_d => omega); (case w_u => omega); intro _ _ _ _ _ _ hr'; obtain ⟨⟨_, _, e', _⟩, _, _, _⟩ := hr'; subst e'; (try k_sweep))))
  exact trivial
theorem kw_54 : True := by
  (k_with "w call ref" => ((with_reducible show wpAny _ _ (call (Value.ref 180) _) _ _ _); (refine' Spec.use (lines_tv ?w_V ?w_x ?w_a ?w_b) ?w_B ?w_F ?w_X ?w_N ?w_T ?w_k ?w_d ?w_u ?_; (case w_B => assumption); (case w_F => k_asm); (case w_X => assumption); (case w_N => k_asm); (case w_T => assumption); (case w_V => walk_at "my_tv"); (case w_x => walk_at "my_x"); (case w_a => walk_at "my_om"); (case w_b => omega); (case w_k => exact rfl); (case w_d => omega); (case w_u => omega); intro _ _ _ _ _ _ hr'; obtain ⟨_, _, _, e', _, _, _, _⟩ := hr'; subst e'; (try k_sweep))))
  exact trivial
theorem kw_55 : True := by
  (k_with "w call ref" => ((with_reducible show wpAny _ _ (call (Value.ref 173) _) _ _ _); (refine' Spec.use (replace_all_tv ?w_V ?w_x ?w_a ?w_b ?w_c ?w_z ?w_z2 ?w_z3) ?w_B ?w_F ?w_X ?w_N ?w_T ?w_k ?w_d ?w_u ?_; (case w_B => assumption); (case w_F => k_asm); (case w_X => assumption); (case w_N => k_asm); (case w_T => assumption); (case w_V => walk_at "my_tv"); (case w_x => walk_at "my_x"); (case w_a => walk_at "my_om"); (case w_b => omega); (case w_c => omega); (case w_z => omega); (case w_z2 => walk_at "my_om"); (case w_z3 => assumption); (case w_k => exact rfl); (case w_d => omega); (case w_u => omega); intro _ _ _ _ _ _ hr'; obtain ⟨_, _, _, _, _, e', _, _, _, _, _, _, _, _⟩ := hr'; subst e'; (try k_sweep))))
  exact trivial
theorem kw_56 : True := by
  (k_with "w call ref" => ((with_reducible show wpAny _ _ (call (Value.ref 89) _) _ _ _); (refine' Spec.use (insert_any ?w_V ?w_x ?w_a ?w_b ?w_c ?w_z ?w_z2 ?w_z3 ?w_z4) ?w_B ?w_F ?w_X ?w_N ?w_T ?w_k ?w_d ?w_u ?_; (case w_B => assumption); (case w_F => k_asm); (case w_X => assumption); (case w_N => k_asm); (case w_T => assumption); (case w_V => walk_at "my_tv"); (case w_x => walk_at "my_x"); (case w_a => omega); (case w_b => omega); (case w_c => omega); (case w_z => omega); (case w_z2 => omega); (case w_z3 => omega); (case w_z4 => assumption); (case w_k => exact rfl); (case w_d => omega); (case w_u => omega); intro _ _ _ _ _ _ hr'; obtain ⟨e', _, _, _, _, _, _, _⟩ := hr'; subst e'; (try k_sweep))))
  exact trivial
theorem kw_57 : True := by
  (k_with "w call ref" => ((with_reducible show wpAny _ _ (call (Value.ref 124) _) _ _ _); (refine' Spec.use (undo_tv ?w_V ?w_x ?w_a ?w_b ?w_c) ?w_B ?w_F ?w_X ?w_N ?w_T ?w_k ?w_d ?w_u ?_; (case w_B => assumption); (case w_F => k_asm); (case w_X => assumption); (case w_N => k_asm); (case w_T => assumption); (case w_V => walk_at "my_tv"); (case w_x => walk_at "my_x"); (case w_a => assumption); (case w_b => omega); (case w_c => omega); (case w_k => exact rfl); (case w_d => omega); (case w_u => omega); intro _ _ _ _ _ _ hr'; obtain ⟨e', _, _, _⟩ := hr'; subst e'; (try k_sweep))))
  exact trivial
theorem kw_58 : True := by
  (k_with "w call ref" => ((with_reducible show wpAny _ _ (call (Value.ref 131) _) _ _ _); (refine' Spec.use (redo_none_tv ?w_V ?w_x ?w_a) ?w_B ?w_F ?w_X ?w_N ?w_T ?w_k ?w_d ?w_u ?_; (case w_B => assumption); (case w_F => k_asm); (case w_X => assumption); (case w_N => k_asm); (case w_T => assumption); (case w_V => walk_at "my_tv"); (case w_x => walk_at "my_x"); (case w_a => assumption); (case w_k => exact rfl); (case w_d => omega); (case w_u => omega); intro _ _ _ _ _ _ hr'; obtain ⟨e', _⟩ := hr'; subst e'; (try k_sweep))))
  exact trivial
theorem kw_59 : True := by
  (k_with "w call ref" => ((with_reducible show wpAny _ _ (call (Value.ref 131) _) _ _ _); (refine' Spec.use (redo_tv ?w_V ?w_x ?w_a ?w_b ?w_c) ?w_B ?w_F ?w_X ?w_N ?w_T ?w_k ?w_d ?w_u ?_; (case w_B => assumption); (case w_F => k_asm); (case w_X => assumption); (case w_N => k_asm); (case w_T => assumption); (case w_V => walk_at "my_tv"); (case w_x => walk_at "my_x"); (case w_a => assumption); (case w_b => omega); (case w_c => omega); (case w_k => exact rfl); (case w_d => omega); (case w_u => omega); intro _ _ _ _ _ _ hr'; obtain ⟨e', _, _, _⟩ := hr'; subst e'; (try k_sweep))))
  exact trivial
theorem kw_60 : True := by
  (k_with "w call ref" => ((with_reducible show wpAny _ _ (call (Value.ref 187) _) _ _ _); (refine' SpecH.use (figures_spec ?w_I ?w_z) ?w_h ?w_B ?w_F ?w_X ?w_N ?w_T ?w_k ?w_d ?w_u ?_; (case w_I => assumption); (case w_z => omega); (case w_h => assumption); (case w_B => assumption); (case w_F => k_asm); (case w_X => assumption); (case w_N => k_asm); (case w_T => assumption); (case w_k => exact rfl); (case w_d => omega); (case w_u => omega); intro _ _ _ _ _ _ hr'; obtain ⟨_, e', _, _, _⟩ := hr'; subst e'; (try k_sweep))))
  exact trivial
theorem kw_61 : True := by
  (k_with "w storeName" => (k_here; k_dflt (refine' storeC_led ?w_F ?w_N ?w_c ?w_m ?w_d ?_ ?w_a ?w_b; (case w_a => rfl); (case w_b => rfl); (case w_F => k_asm); (case w_N => k_asm); (case w_c => rfl); (case w_m => walk_at "my_mem"); (case w_d => k_asm); k_whole); intro _ _ _ _ _; (try k_sweep)))
  exact trivial

theorem off_Make : True := by w_top off; exact trivial
theorem wt_make (C : Addr) : (Code.builtin "type.__call__" (⟨[.ref C], []⟩ : Args)).weight ≤ 50 := by
  have : (Code.builtin "type.__call__" (⟨[.ref C], []⟩ : Args)).weight = 1 := rfl
  omega
theorem cu_make (C : Addr) : (Code.builtin "type.__call__" (⟨[.ref C], []⟩ : Args)).cUnits ≤ 400 := by
  have : (Code.builtin "type.__call__" (⟨[.ref C], []⟩ : Args)).cUnits = 1 := rfl
  omega
theorem enterMake {C fI : Addr} {need : Nat} {φ : Led} {Post : Value → Led → Prop} {name qual : Str} {params : Arguments} {body : List Stmt} {scope : Scope} {dV kV doc pm cdv ct oc : Value} {an od : Option Addr} {osl : Array (Option Value)} {binds : Addr → List (Str × Value)}
    (hm : ∀ w : World, makesIn (Mine.hd.heap_39 w.params) C = true) (hi : ∀ w : World, findIn (Mine.hd.heap_39 w.params) (.ref C) "__init__" = some (some (.ref fI))) (hf : ∀ w : World, isFn (Mine.hd.heap_39 w.params) (.ref fI) = true)
    (ho : ∀ w : World, (Mine.hd.heap_39 w.params).lookup fI = some ⟨oc, od, .func (fnOf name qual params body scope dV kV doc pm an cdv ct), osl⟩) (hcd : ∀ w : World, codeIn (Mine.hd.heap_39 w.params) cdv qual = true)
    (hbind : ∀ (w : World) (s : Shared) (x : Addr), (Mine.hd.heap_39 w.params).In s.heap → BindsTo s (fnOf name qual params body scope dV kV doc pm an cdv ct) ⟨[.ref x], []⟩ (binds x)) (hloc : ∀ x, ∀ y ∈ binds x, scope.names.lookup y.1 = some .local)
    (hco : scope.isCoroutine = false) (hgen : scope.isGenerator = false) (hk : scope.kind = .function) (hcell : ∀ x ∈ scope.names, x.2 ≠ .cell)
    (h : ∀ {prog : Program} {w : World} {p : Program} {loose : List Str} {mean : ExcName → Option Value} {mg mb : Str → Option Value} {dp un : Nat} {gd : Option (List Code)} {outer : List Env} {A₀ : Around} {base g : Heap} {L : Addr} {s : Shared} {x dx : Addr},
      (∀ p ∈ φ, p.1 < dx) → dx < x → Below A₀ base outer g → Fr g L s.heap (fun y => (binds x).reverse.lookup y) → (Mine.hd.heap_39 w.params).In g → News g L s.heap ((x, instObj C dx) :: (dx, dictOf [] 0) :: φ) → Top p loose mean mg mb g → dp + need < 700 → un + 100 * need < 9500 →
      wpAny (model prog w) (ktrTop dp un gd qual scope L fI cdv [] outer) (execs body (envOf qual scope L fI cdv)) (BodyEnd g L (fun r ψ => r = .none ∧ Post (.ref x) ψ) s) (fun _ _ => False) s) :
    Spec C [] need φ Post := by
  intro prog w p loose mean mg mb dp un gd cn cs a ccd cl outer A₀ base h₀ L m s Q E B F X N T hk' hdp hun hret
  refine call_cls F X N (hm w) (hi w) (hf w) fun x dx h' F' N' l1 l2 => ?_
  refine code_def B F' X N' T rfl rfl hk' (ho w) (hcd w) ?_ (hbind w _ x (X.keeps F'.keep)) (hloc x) ?_ hco hgen hk hcell
  · show dp + _ < recursionLimit
    unfold recursionLimit
    have := wt_make C
    omega
  · intro g L' h₁ FG F'' N'' B' X' T'
    refine wpAny_noRaise ?_
    have hu := cu_make C
    have hw := wt_make C
    refine wpAny_mono (h (dp := dp + _ + 1) (un := un + _ + 3) (outer := envX cn cs L a ccd cl :: outer) (s := { ({ s with heap := h' } : Shared) with heap := h₁, toks := s.toks + (binds x).length }) l1 l2 B' F'' X' N'' T' (by omega) (by omega)) (fun fl s' he => ?_) fun _ _ x => x
    obtain ⟨h₄, tk, m', φ', rfl, F₂, N₂, hp1, hp2⟩ := he
    refine leaveK_ F₂ N₂ fun F₃ N₃ => ?_
    exact ⟨hp1, hret _ _ _ _ F₃ N₃ hp2⟩
theorem put_mem {h₀ h : Heap} {L d : Addr} {o : Obj} {φ : Led} (_ : News h₀ L h (put d o φ)) : (d, o) ∈ put d o φ := put_self _ _ _
theorem put_keep {h₀ h : Heap} {L d : Addr} {o : Obj} {φ : Led} {p : Addr × Obj} (_ : News h₀ L h (put d o φ)) (hm : p ∈ φ) (hn : p.1 ≠ d) : p ∈ put d o φ := put_of hm hn
theorem tv_init {ψ : Led} {x dx lb lp la lf : Addr} {h1 h2 h3 h4 : Int} {t1 t2 t3 t4 tb : Tok} (hx : (x, instObj 134 dx) ∈ ψ)
    (hd : (dx, dictOf [⟨h1, .str (Str.ofString "buffers") t1, .ref lb⟩, ⟨h2, .str (Str.ofString "pieces") t2, .ref lp⟩, ⟨h3, .str (Str.ofString "past") t3, .ref la⟩, ⟨h4, .str (Str.ofString "future") t4, .ref lf⟩] 4) ∈ ψ)
    (hb : (lb, listOf [Value.str (Str.ofString "") tb].toArray 0) ∈ ψ) (hp : (lp, listOf #[] 0) ∈ ψ) (ha : (la, listOf #[] 0) ∈ ψ) (hf : (lf, listOf #[] 0) ∈ ψ) (d1 : lb ≠ la) (d2 : lb ≠ lf) (d3 : la ≠ lf) (d4 : lp ≠ lb) (d5 : lp ≠ la) (d6 : lp ≠ lf) :
    ∃ T, T.x = x ∧ T.fp = [x, dx, lb, la, lf] ∧ TV ψ T { past := [], cur := [], future := [] } 1 := by
  refine ⟨⟨x, dx, lb, lp, la, lf, t1, t2, t3, t4, h1, h2, h3, h4, 0, 0, 0, 0, [.str (Str.ofString "") tb], [], [], []⟩, rfl, rfl, ⟨⟨[Str.ofString ""], [], [], []⟩, ⟨hx, hd, hb, hp, ha, hf, .cons _ _ .nil, .nil, .nil, .nil, d1, d2, d3, ?_⟩, ⟨(fun _ h => nomatch h), (fun _ h => nomatch h), (fun _ h => nomatch h), ?_, Nat.le_refl _, rfl, rfl, rfl⟩⟩⟩
  · simp only [List.mem_cons, List.not_mem_nil, or_false, not_or]
    exact ⟨d4, d5, d6⟩
  · intro y hy
    rw [List.mem_singleton.mp hy]
    decide +kernel
set_option maxHeartbeats 400000 in
theorem make_tv {φ : Led} : Spec 134 [] 2 φ (fun r ψ => ∃ T, r = .ref T.x ∧ TV ψ T { past := [], cur := [], future := [] } 1 ∧ Keep φ [] ψ ∧ ∀ b ∈ T.fp, ∀ p ∈ φ, p.1 ≠ b) := by
  walk_at "my_fill"
  refine' enterMake ?k1 ?k2 ?k3 ?k4 ?k5 ?k6 ?k7 ?k8 ?k9 ?k10 ?k11 ?_
  case k1 => (intro w; k_is)
  case k2 => (intro w; k_is)
  case k3 => (intro w; k_is)
  case k4 => (intro w; k_is)
  case k5 => (intro w; k_is)
  case k6 => exact fun w s x hX => binds_K hX rfl (by k_is) rfl rfl rfl
  case k7 => exact fun x => locs rfl
  case k8 => exact rfl
  case k9 => exact rfl
  case k10 => exact rfl
  case k11 => decide
  intro prog w p loose mean mg mb dp un gd outer A₀ base g L s x dx l1 l2 B F X N Tp hdp hun
  k_fold
  have hxd : x ≠ dx := Nat.ne_of_gt l2
  have hφ : ∀ p ∈ φ, p.1 ≠ dx := fun p hp => Nat.ne_of_lt (l1 p hp)
  iterate 9 walk1
  rename_i lb _ b1 _ F₁ N₁
  have hbd : lb ≠ dx := Nat.ne_of_gt b1.2.1
  have hx1 := put_keep N₁ (mem_tl mem_hd) hxd
  have hb1 := put_keep N₁ mem_hd hbd
  have hd1 := put_mem N₁
  have k1 : Keep φ [] _ := fun p hp _ => put_keep N₁ (mem_tl (mem_tl (mem_tl hp))) (hφ p hp)
  generalize (put dx _ _ : Led) = φ₁ at *
  iterate 15 walk1
  rename_i _ lp _ p1 _ F₂ N₂
  have hpd : lp ≠ dx := Nat.ne_of_gt (p1 _ hd1)
  have hbp : lb < lp := p1 _ hb1
  have hx2 := put_keep N₂ (mem_tl hx1) hxd
  have hb2 := put_keep N₂ (mem_tl hb1) hbd
  have hp2 := put_keep N₂ mem_hd hpd
  have hd2 := put_mem N₂
  have k2 : Keep φ [] _ := fun p hp h => put_keep N₂ (mem_tl (k1 p hp h)) (hφ p hp)
  generalize (put dx _ _ : Led) = φ₂ at *
  clear hx1 hb1 hd1 k1
  iterate 8 walk1
  rename_i _ la _ a1 _ F₃ N₃
  have had : la ≠ dx := Nat.ne_of_gt (a1 _ hd2)
  have hba : lb < la := a1 _ hb2
  have hpa : lp < la := a1 _ hp2
  have hx3 := put_keep N₃ (mem_tl hx2) hxd
  have hb3 := put_keep N₃ (mem_tl hb2) hbd
  have hp3 := put_keep N₃ (mem_tl hp2) hpd
  have ha3 := put_keep N₃ mem_hd had
  have hd3 := put_mem N₃
  have k3 : Keep φ [] _ := fun p hp h => put_keep N₃ (mem_tl (k2 p hp h)) (hφ p hp)
  generalize (put dx _ _ : Led) = φ₃ at *
  clear hx2 hb2 hp2 hd2 k2
  iterate 8 walk1
  rename_i _ lf _ f1 _ F₄ N₄
  have hfd : lf ≠ dx := Nat.ne_of_gt (f1 _ hd3)
  have hbf : lb < lf := f1 _ hb3
  have hpf : lp < lf := f1 _ hp3
  have haf : la < lf := f1 _ ha3
  have hx4 := put_keep N₄ (mem_tl hx3) hxd
  have hb4 := put_keep N₄ (mem_tl hb3) hbd
  have hp4 := put_keep N₄ (mem_tl hp3) hpd
  have ha4 := put_keep N₄ (mem_tl ha3) had
  have hf4 := put_keep N₄ mem_hd hfd
  have hd4 := put_mem N₄
  have k4 : Keep φ [] _ := fun p hp h => put_keep N₄ (mem_tl (k3 p hp h)) (hφ p hp)
  generalize (put dx _ _ : Led) = φ₄ at *
  clear hx3 hb3 hp3 ha3 hd3 k3
  repeat' walk1
  obtain ⟨T, e1, e2, V⟩ := tv_init hx4 hd4 hb4 hp4 ha4 hf4 (Nat.ne_of_lt hba) (Nat.ne_of_lt hbf) (Nat.ne_of_lt haf) (Nat.ne_of_gt hbp) (Nat.ne_of_lt hpa) (Nat.ne_of_lt hpf)
  refine BodyEnd.next F₄ N₄ ⟨rfl, T, by rw [e1], V, k4, fun b hb p hp e => ?_⟩
  have hpd : p.1 < dx := l1 p hp
  have hdb : dx < lb := b1.2.1
  rw [e] at hpd
  rw [e2] at hb
  simp only [List.mem_cons, List.not_mem_nil, or_false] at hb
  rcases hb with rfl | rfl | rfl | rfl | rfl
  · exact Nat.lt_asymm hpd l2
  · exact Nat.lt_irrefl _ hpd
  · exact Nat.lt_asymm hpd hdb
  · exact Nat.lt_asymm hpd (Nat.lt_trans hdb hba)
  · exact Nat.lt_asymm hpd (Nat.lt_trans hdb hbf)

theorem kw_62 : True := by
  (k_with "w call ref nil" => ((with_reducible show wpAny _ _ (call (Value.ref 134) _) _ _ _); (refine' Spec.use make_tv ?w_mkB ?w_mkF ?w_mkX ?w_mkN ?w_mkT ?w_mkK ?w_mkD ?w_mkU ?_; (case w_mkB => assumption); (case w_mkF => k_asm); (case w_mkX => assumption); (case w_mkN => k_asm); (case w_mkT => assumption); (case w_mkK => exact rfl); (case w_mkD => omega); (case w_mkU => omega); intro _ _ _ _ _ _ hr'; obtain ⟨_, e', _, _, _⟩ := hr'; subst e'; (try k_sweep))))
  exact trivial

theorem off_LawPre : True := by w_top off; exact trivial
def fnBody {f : Addr} {name qual : Str} {params : Arguments} {body : List Stmt} {scope : Scope} {dV kV doc pm cdv ct oc : Value} {an od : Option Addr} {osl : Array (Option Value)}
    (_ : ∀ w : World, (Mine.hd.heap_39 w.params).lookup f = some ⟨oc, od, .func (fnOf name qual params body scope dV kV doc pm an cdv ct), osl⟩) : Str × List Stmt × Scope × Value := (qual, body, scope, cdv)
def lawFn : Str × List Stmt × Scope × Value := fnBody (f := 218) (by walk_at "my_fill"; intro w; k_is)
/-- the rest of the law's body, behind k statements -/
def LawGo (prog : Program) (w : World) (fa : Addr) (cda : Value) (dp un : Nat) (L : Addr) (g : Heap) (s : Shared) (k : Nat) (h : Heap) (tk : Nat) : Prop :=
  wpAny (model prog w) (ktrTop dp un (some []) lawFn.1 lawFn.2.2.1 L fa cda (cellsFrom (L + 1) lawFn.2.2.1.names []) []) (execs (lawFn.2.1.drop k) (envOfC lawFn.1 lawFn.2.2.1 L fa cda)) (BodyEnd g L (fun r _ => r = .bool true) s) (fun _ _ => False) { s with heap := h, toks := tk }

theorem law_top {prog : Program} {w : World} {qual : Str} {scope : Scope} {L f : Addr} {cdv : Value} {body : List Stmt} {g : Heap} {s : Shared} {Q : Flow → Shared → Prop} {E : Value → Shared → Prop} {m : Str → Option Value} (_ : Fr g L s.heap m)
    (hQ : ∀ fl s', BodyEnd g L (fun r _ => r = .bool true) s fl s' → Q fl s')
    (h : ∀ dp un, dp < 400 → un < 400 → wpAny (model prog w) (ktrTop dp un (some []) qual scope L f cdv (cellsFrom (L + 1) scope.names []) []) (execs body (envOfC qual scope L f cdv)) (BodyEnd g L (fun r _ => r = .bool true) s) (fun _ _ => False) s) :
    wpAny (model prog w) (callerA.deeper (envOfC qual scope L f cdv)) (execs body (envOfC qual scope L f cdv)) Q E s := by
  refine wpAny_noRaise ?_
  exact wpAny_mono (h _ _ (by decide) (by decide)) hQ fun _ _ x => x
section
variable {prog : Program} {w : World} {A : Around} {E : Value → Shared → Prop} {s : Shared} {cn : Str} {cs : Scope} {L a : Addr} {ccd : Value} {cl : List (Str × Addr)} {h₀ : Heap} {m : Str → Option Value} {φ : Led}
theorem assign1X {x : Str} {p1 : Pos} {v : Value} {Q : Unit → Shared → Prop} (F : Fr h₀ L s.heap m) (N : News h₀ L s.heap φ)
    (h : ∀ h' tk, Fr h₀ L h' (fun q => if q = x then some v else m q) → News h₀ L h' φ → Q () { s with heap := h', toks := tk })
    (hk : cs.kind = .function := by rfl) (h1 : (envX cn cs L a ccd cl).kindOf x = some .local := by rfl) :
    wpAny (model prog w) A (assign (.Name x p1) (envX cn cs L a ccd cl) v) Q E s :=
  wpAny_assign_Name (storeX_L F N (fun h₁ F₁ N₁ => h _ _ F₁ N₁) hk h1)
theorem assign2X {x y : Str} {p1 p2 pos : Pos} {k : Nat} {t : Addr} {v1 v2 : Value} {n : Nat} {Q : Unit → Shared → Prop} (F : Fr h₀ L s.heap m) (N : News h₀ L s.heap φ) (ht : (t, ({ cls := .type "tuple", data := .seq [v1, v2].toArray n } : Obj)) ∈ φ) (hh : A.handled = none)
    (h : ∀ h' tk, Fr h₀ L h' (fun q => if q = y then some v2 else if q = x then some v1 else m q) → News h₀ L h' φ → Q () { s with heap := h', toks := tk })
    (hk : cs.kind = .function := by rfl) (h1 : (envX cn cs L a ccd cl).kindOf x = some .local := by rfl) (h2 : (envX cn cs L a ccd cl).kindOf y = some .local := by rfl) :
    wpAny (model prog w) A (assign (.Tuple [.Name x p1, .Name y p2] k pos) (envX cn cs L a ccd cl) (.ref t)) Q E s := by
  refine unpackN_ F N (items := [v1, v2].toArray) ⟨_, (N _ ht).1, rfl, n, rfl⟩ hh rfl rfl fun h' F' N' => ?_
  refine assignInOrder_cons (wpAny_assign_Name (storeX_L F' N' (fun h₁ F₁ N₁ => ?_) hk h1))
  refine assignInOrder_cons (wpAny_assign_Name (storeX_L F₁ N₁ (fun h₂ F₂ N₂ => ?_) hk h2))
  exact assignInOrder_nil (h _ _ F₂ N₂)
end
theorem frame_off {φ ψ : Led} {T T' : TA} {b : Addr} {o : Obj} (Fm : Frame φ T ψ T') (h : b ∉ T.fp) (hm : (b, o) ∈ φ) : b ∉ T'.fp := by
  intro hb
  rcases Fm.2.2 b hb with h' | h'
  · exact h h'
  · exact h' _ hm rfl
theorem frame_mem {φ ψ : Led} {T T' : TA} {b : Addr} {o : Obj} (Fm : Frame φ T ψ T') (h : b ∉ T.fp) (hm : (b, o) ∈ φ) : (b, o) ∈ ψ := Fm.2.1 _ hm h
theorem frame_figs {φ ψ : Led} {T T' : TA} {l : Addr} (Fm : Frame φ T ψ T') (h : l ∉ T.fp) (hm : Figs φ l) : Figs ψ l := by
  obtain ⟨us, k, ns, h1, h2, h3⟩ := hm
  exact ⟨us, k, ns, Fm.2.1 _ h1 h, h2, h3⟩
/-- the cell of chars -/
def CellY (φ : Led) (c : Addr) (y : Str) : Prop := ∃ o t, (c, o) ∈ φ ∧ o.data = .cell (some (.str y t))
theorem CellY.good {φ ψ : Led} {c : Addr} {y : Str} (h : CellY φ c y) (hs : ∀ p ∈ φ, good p.2 = true → p ∈ ψ) : CellY ψ c y := by
  obtain ⟨o, t, h1, h2⟩ := h
  exact ⟨o, t, hs _ h1 (good_cell h2), h2⟩
theorem CellY.sub {φ ψ : Led} {c : Addr} {y : Str} (h : CellY φ c y) (hs : ∀ p ∈ φ, p ∈ ψ) : CellY ψ c y := h.good fun p hp _ => hs p hp
theorem CellY.off {φ ψ : Led} {c : Addr} {y : Str} {fp : List Addr} (h : CellY φ c y) (hs : Keep φ fp ψ) (hn : c ∉ fp) : CellY ψ c y := by
  obtain ⟨o, t, h1, h2⟩ := h
  exact ⟨o, t, hs _ h1 hn, h2⟩
theorem Figs.good {φ ψ : Led} {l : Addr} (h : Figs φ l) (hs : ∀ p ∈ φ, good p.2 = true → p ∈ ψ) : Figs ψ l := by
  obtain ⟨us, k, ns, h1, h2, h3⟩ := h
  exact ⟨us, k, ns, hs _ h1 rfl, h2, h3⟩
theorem cell_ne_list {φ : Led} {a b : Addr} {o : Obj} {v : Option Value} {us : List Value} {k : Nat} (U : Uniq φ) (h1 : (a, o) ∈ φ) (hd : o.data = .cell v) (h2 : (b, listOf us.toArray k) ∈ φ) : a ≠ b := by
  rintro rfl
  have e := U _ _ _ h1 h2
  subst e
  cases hd
/-- what stands between the law's statements: the text and the letters -/
structure LawSt (m : Str → Option Value) (ψ : Led) (c : Addr) (x : Addr) (T : TA) (H : Hist) (nb : Nat) (y : Str) : Prop where
  hb : m (Str.ofString "body") = some (.ref x)
  hx : x = T.x
  V : TV ψ T H nb
  hc : CellY ψ c y
  hy : tx y = H.cur
  hcf : c ∉ T.fp
theorem LawSt.good {m : Str → Option Value} {ψ ψ' : Led} {c x : Addr} {T : TA} {H : Hist} {nb : Nat} {y : Str} (S : LawSt m ψ c x T H nb y) (hs : ∀ p ∈ ψ, good p.2 = true → p ∈ ψ') : LawSt m ψ' c x T H nb y :=
  { S with V := S.V.mono hs, hc := S.hc.good hs }
/-- the law from behind its k-th statement, where St holds -/
def Stage (k : Nat) (St : Addr → (Str → Option Value) → Led → Prop) : Prop :=
  ∀ (prog : Program) (w : World) (p : Program) (loose : List Str) (mean : ExcName → Option Value) (mg mb : Str → Option Value) (fa : Addr) (cda : Value) (dp un : Nat) (A₀ : Around) (base g : Heap) (L : Addr) (s : Shared) (h : Heap) (tk : Nat) (m : Str → Option Value) (φ : Led),
    dp < 400 → un < 400 → Below A₀ base [] g → (Mine.hd.heap_39 w.params).In g → Top p loose mean mg mb g → Fr g L h m → News g L h φ → St L m φ → LawGo prog w fa cda dp un L g s k h tk
def St14 (_ : Addr) (m : Str → Option Value) (φ : Led) : Prop := ∃ x T H nb yo to, m (Str.ofString "body") = some (.ref x) ∧ m (Str.ofString "after") = some (.str yo to) ∧ x = T.x ∧ TV φ T H nb ∧ H.cur = tx yo ∧ H.future = [] ∧ H.cur.length ≤ 90 ∧ nb ≤ 600
/-- the rows of the story: the elder texts, this one, those that were undone -/
def Hist.all (H : Hist) : List (List Nat) := H.past ++ H.cur :: H.future.reverse
def St12 (L : Addr) (m : Str → Option Value) (φ : Led) : Prop := ∃ x T H nb y yo to f tf P tr, m (Str.ofString "body") = some (.ref x) ∧ m (Str.ofString "after") = some (.str yo to) ∧ m (Str.ofString "many") = some (.int ((f : Nat) : Int) tf) ∧
  x = T.x ∧ TV φ T H nb ∧ CellY φ (L + 1) y ∧ H.all = P ++ [tx y] ++ tr ∧ (P ++ [tx y] ++ tr).getLast? = some (tx yo) ∧ H.past.length = P.length ∧ tr.length = f ∧ f ≤ 90 ∧ P.length ≤ 100 ∧ (tx y).length ≤ 90 ∧ (tx yo).length ≤ 90 ∧ nb ≤ 600
def St11 (L : Addr) (m : Str → Option Value) (φ : Led) : Prop := ∃ x T H nb y yo to f tf P tr, m (Str.ofString "body") = some (.ref x) ∧ m (Str.ofString "after") = some (.str yo to) ∧ m (Str.ofString "many") = some (.int ((f : Nat) : Int) tf) ∧
  x = T.x ∧ TV φ T H nb ∧ CellY φ (L + 1) y ∧ L + 1 ∉ T.fp ∧ H.all = P ++ [tx y] ++ tr ∧ (P ++ [tx y] ++ tr).getLast? = some (tx yo) ∧ H.past.length = P.length + f ∧ tr.length = f ∧ f ≤ 90 ∧ P.length ≤ 100 ∧ (tx y).length ≤ 90 ∧ (tx yo).length ≤ 90 ∧ nb ≤ 600
theorem hist_undo {H : Hist} {P : List (List Nat)} {c : List Nat} (h : H.past = P ++ [c]) : Hist.all { past := P, cur := c, future := H.future ++ [H.cur] } = H.all := by simp [Hist.all, h]
theorem hist_redo {H : Hist} {P : List (List Nat)} {c : List Nat} (h : H.future = P ++ [c]) : Hist.all { past := H.past ++ [H.cur], cur := c, future := P } = H.all := by simp [Hist.all, h]
theorem hist_at {H : Hist} {P tr : List (List Nat)} {c : List Nat} (h : H.all = P ++ [c] ++ tr) (hl : H.past.length = P.length) : H.past = P ∧ H.cur = c ∧ H.future.reverse = tr := by
  unfold Hist.all at h
  rw [List.append_assoc] at h
  obtain ⟨h1, h2⟩ := List.append_inj h hl
  simp only [List.cons_append, List.nil_append, List.cons.injEq] at h2
  exact ⟨h1, h2.1, h2.2⟩
theorem snoc_of {α : Type} {l : List α} (h : l.length ≠ 0) : ∃ P c, l = P ++ [c] := by
  rcases List.eq_nil_or_concat l with rfl | ⟨P, c, rfl⟩
  · exact absurd rfl h
  · exact ⟨P, c, List.concat_eq_append⟩
theorem TV.offI {φ : Led} {T : TA} {H : Hist} {nb : Nat} {I : Addr} (V : TV φ T H nb) (h : ∀ p ∈ φ, p.1 ≠ I) : I ∉ T.fp := by
  obtain ⟨S, X, W⟩ := V.ex
  intro hb
  obtain ⟨o, ho⟩ := X.fpIn _ hb
  exact h _ ho rfl
theorem CellY.frame {φ ψ : Led} {T T' : TA} {c : Addr} {y : Str} (h : CellY φ c y) (Fm : Frame φ T ψ T') (hn : c ∉ T.fp) : CellY ψ c y ∧ c ∉ T'.fp := by
  obtain ⟨o, t, h1, h2⟩ := h
  exact ⟨⟨o, t, Fm.2.1 _ h1 hn, h2⟩, frame_off Fm hn h1⟩
section
variable {prog : Program} {w : World} {A : Around} {E : Value → Shared → Prop} {s : Shared} {L b : Addr} {h₀ : Heap} {m : Str → Option Value} {φ : Led}
theorem listOf_led {us : List Value} {k : Nat} {Q : Value → Shared → Prop} (F : Fr h₀ L s.heap m) (N : News h₀ L s.heap φ) (hb : (b, listOf us.toArray k) ∈ φ) (hz : us.length ≤ 16777216)
    (h : ∀ D c h', Fr h₀ L h' m → News h₀ L h' ((D, listOf us.toArray c) :: φ) → (∀ q ∈ φ, q.1 < D) → Q (.ref D) { s with heap := h' }) : wpAny (model prog w) A (call (.type "list") [.ref b]) Q E s :=
  kup_listOf F N hb (by simp) h (by rw [sizeLine_eq]; simpa using hz)
end

theorem off_Law14 : True := by w_top off; exact trivial
set_option maxHeartbeats 1000000 in
theorem st14 : Stage 14 St14 := by
  walk_at "my_fill"
  rintro prog w p loose mean mg mb fa cda dp un A₀ base g L s h tk m φ hdp hun B X Tp F N ⟨x, T, H, nb, yo, to, g1, g2, hx, V, hc, hf, hz, hnb⟩
  delta LawGo lawFn fnBody
  dsimp only
  show wpAny _ _ (execs (_ :: _) _) _ _ _
  k_fold
  obtain ⟨hxi, hxd⟩ := V.inst
  rw [← hx] at hxi
  have F₁ := fr_put2 g1 g2 F
  clear g1 g2 F
  repeat' walk1
  · rename Fr _ _ _ _ => F₉
    rename News _ _ _ _ => N₉
    dsimp only
    exact BodyEnd.ret F₉ N₉ rfl
  · exfalso
    rename (_ = false) => hcc
    rename (tx _ = H.cur) => hy
    rw [tx_inj (hy.trans hc), beq_self_eq_true] at hcc
    cases hcc

theorem off_Law13 : True := by w_top off; exact trivial
theorem hist_end {H : Hist} {A : List (List Nat)} (h : H.all = A) (hl : A.length = H.past.length + 1) : H.future = [] ∧ A.getLast? = some H.cur := by
  subst h
  unfold Hist.all at hl ⊢
  simp only [List.length_append, List.length_cons, List.length_reverse] at hl
  have : H.future = [] := List.length_eq_zero_iff.mp (by omega)
  rw [this]
  exact ⟨rfl, by simp⟩
theorem all_len {H : Hist} {A : List (List Nat)} (h : H.all = A) : H.past.length + 1 + H.future.length = A.length := by
  subst h
  unfold Hist.all
  simp only [List.length_append, List.length_cons, List.length_reverse]
  omega
set_option maxHeartbeats 1000000 in
theorem st13 : Stage 13 St12 := by
  walk_at "my_fill"
  rintro prog w p loose mean mg mb fa cda dp un A₀ base g L s h tk m φ hdp hun B X Tp F N ⟨x, T, H, nb, y, yo, to, f, tf, P, tr, g1, g2, g3, hx, V, hc, hall, hlast, hpl, htr, hf, hP, hyl, hyo, hnb⟩
  delta LawGo lawFn fnBody
  dsimp only
  show wpAny _ _ (execs (_ :: _) _) _ _ _
  k_fold
  have F₁ := fr_put3 g1 g2 g3 F
  clear g1 g2 g3 F
  repeat' (first | (refine wpAny_For ?_) | walk1)
  rename IsRange _ _ _ _ _ _ _ _ => hrng
  rename Fr _ _ _ _ => F₂
  rename News _ _ _ _ => N₂
  have hlen : (P ++ [tx y] ++ tr).length = P.length + 1 + f := by simp only [List.length_append, List.length_singleton, htr]
  refine iter_range (n := f) (fun i m ψ => ∃ T H, m (Str.ofString "body") = some (.ref x) ∧ m (Str.ofString "after") = some (.str yo to) ∧ x = T.x ∧ TV ψ T H nb ∧ H.all = P ++ [tx y] ++ tr ∧ H.past.length = P.length + i) rfl hrng (range_small (by omega) (by omega) (by omega) (by omega)) (by rw [rangeSize_nat]; simp) F₂ N₂ ⟨T, H, rfl, rfl, hx, V, hall, hpl⟩ ?_ ?_ ?_
  · rintro i m ψ ψ' hs ⟨T, H, a1, a2, a3, a4, a5⟩
    exact ⟨T, H, a1, a2, a3, a4.mono fun p hp hg => hs p hp (.inl hg), a5⟩
  · rintro i ti m₁ ψ I Io h₃ tk₃ hi ⟨T, H, g1, g2, hx, V, hall, hpl⟩ hI hI' F₃ N₃
    refine assign1X (fr_put2 g1 g2 F₃) N₃ fun h₄ tk₄ F₄ N₄ => ?_
    k_fold
    have hal := all_len hall
    have hnI := V.offI hI'
    clear g1 g2 F₃ N₃ F₂ N₂
    obtain ⟨hxi, hxd⟩ := V.inst
    rw [← hx] at hxi
    obtain ⟨P', c, hPc⟩ := snoc_of (l := H.future) (by omega)
    repeat' walk1
    rename Fr _ _ _ _ => F₉
    rename News _ _ _ _ => N₉
    rename Frame _ _ _ _ => hfr
    rename_i T' hV'
    refine ⟨_, _, _, _, rfl, F₉, N₉, hfr.2.1 _ mem_hd hnI, T', _, rfl, rfl, frame_x hfr hx, hV', (hist_redo hPc).trans hall, ?_⟩
    rw [List.length_append, List.length_singleton]; omega
  · rintro m₁ ψ h₃ tk₃ ⟨T, H, g1, g2, hx, V, hall, hpl⟩ F₃ N₃
    have hal := all_len hall
    obtain ⟨e1, e2⟩ := hist_end hall (by omega)
    exact st14 prog w p loose mean mg mb fa cda dp un A₀ base g L s h₃ tk₃ m₁ ψ hdp hun B X Tp F₃ N₃ ⟨x, T, H, nb, yo, to, g1, g2, hx, V, Option.some.inj (e2.symm.trans hlast), e1, by rw [Option.some.inj (e2.symm.trans hlast)]; exact hyo, hnb⟩

theorem off_Law12 : True := by w_top off; exact trivial
set_option maxHeartbeats 1000000 in
theorem st12 : Stage 12 St12 := by
  walk_at "my_fill"
  rintro prog w p loose mean mg mb fa cda dp un A₀ base g L s h tk m φ hdp hun B X Tp F N ⟨x, T, H, nb, y, yo, to, f, tf, P, tr, g1, g2, g3, hx, V, ⟨oc, tc, hcm, hod⟩, hall, hlast, hpl, htr, hf, hP, hyl, hyo, hnb⟩
  delta LawGo lawFn fnBody
  dsimp only
  show wpAny _ _ (execs (_ :: _) _) _ _ _
  k_fold
  have F₁ := fr_put3 g1 g2 g3 F
  clear g1 g2 g3 F
  obtain ⟨hxi, hxd⟩ := V.inst
  rw [← hx] at hxi
  obtain ⟨-, hcur, -⟩ := hist_at hall hpl
  have hz : H.cur.length ≤ 90 := by rw [hcur]; exact hyl
  iterate 12 walk1
  all_goals rename (tx _ = H.cur) => hy
  · exfalso
    rename (_ = true) => hcc
    rw [tx_inj (hy.trans hcur), bne_self_eq_false] at hcc
    cases hcc
  · walk1
    rename Fr _ _ _ _ => F₉
    rename News _ _ _ _ => N₉
    rename Keep _ _ _ => k₉
    exact st13 prog w p loose mean mg mb fa cda dp un A₀ base g L s _ _ _ _ hdp hun B X Tp F₉ N₉ ⟨x, T, H, nb, y, yo, to, f, tf, P, tr, rfl, rfl, rfl, hx, V.sub k₉.sub, ⟨oc, tc, k₉.sub _ hcm, hod⟩, hall, hlast, hpl, htr, hf, hP, hyl, hyo, hnb⟩

theorem off_Law11 : True := by w_top off; exact trivial
set_option maxHeartbeats 1000000 in
theorem st11 : Stage 11 St11 := by
  walk_at "my_fill"
  rintro prog w p loose mean mg mb fa cda dp un A₀ base g L s h tk m φ hdp hun B X Tp F N ⟨x, T, H, nb, y, yo, to, f, tf, P, tr, g1, g2, g3, hx, V, hc, hcf, hall, hlast, hpl, htr, hf, hP, hyl, hyo, hnb⟩
  delta LawGo lawFn fnBody
  dsimp only
  show wpAny _ _ (execs (_ :: _) _) _ _ _
  k_fold
  have F₁ := fr_put3 g1 g2 g3 F
  clear g1 g2 g3 F
  repeat' (first | (refine wpAny_For ?_) | walk1)
  rename IsRange _ _ _ _ _ _ _ _ => hrng
  rename Fr _ _ _ _ => F₂
  rename News _ _ _ _ => N₂
  have hlen : (P ++ [tx y] ++ tr).length = P.length + 1 + f := by simp only [List.length_append, List.length_singleton, htr]
  refine iter_range (n := f) (fun i m ψ => ∃ T H, m (Str.ofString "body") = some (.ref x) ∧ m (Str.ofString "after") = some (.str yo to) ∧ m (Str.ofString "many") = some (.int ((f : Nat) : Int) tf) ∧ x = T.x ∧ TV ψ T H nb ∧ CellY ψ (L + 1) y ∧ L + 1 ∉ T.fp ∧ H.all = P ++ [tx y] ++ tr ∧ H.past.length + i = P.length + f) rfl hrng (range_small (by omega) (by omega) (by omega) (by omega)) (by rw [rangeSize_nat]; simp) F₂ N₂ ⟨T, H, rfl, rfl, rfl, hx, V, hc, hcf, hall, hpl⟩ ?_ ?_ ?_
  · rintro i m ψ ψ' hs ⟨T, H, a1, a2, a3, a4, a5, a6, a7⟩
    exact ⟨T, H, a1, a2, a3, a4, a5.mono fun p hp hg => hs p hp (.inl hg), a6.good fun p hp hg => hs p hp (.inl hg), a7⟩
  · rintro i ti m₁ ψ I Io h₃ tk₃ hi ⟨T, H, g1, g2, g3, hx, V, hc, hcf, hall, hpl⟩ hI hI' F₃ N₃
    refine assign1X (fr_put3 g1 g2 g3 F₃) N₃ fun h₄ tk₄ F₄ N₄ => ?_
    k_fold
    have hal := all_len hall
    have hnI := V.offI hI'
    clear g1 g2 g3 F₃ N₃ F₂ N₂
    obtain ⟨hxi, hxd⟩ := V.inst
    rw [← hx] at hxi
    obtain ⟨P', c, hPc⟩ := snoc_of (l := H.past) (by omega)
    repeat' walk1
    rename Fr _ _ _ _ => F₉
    rename News _ _ _ _ => N₉
    rename Frame _ _ _ _ => hfr
    rename_i T' hV'
    obtain ⟨hc', hcf'⟩ := (hc.sub fun p hp => mem_tl hp).frame hfr hcf
    refine ⟨_, _, _, _, rfl, F₉, N₉, hfr.2.1 _ mem_hd hnI, T', _, rfl, rfl, rfl, frame_x hfr hx, hV', hc', hcf', (hist_undo hPc).trans hall, ?_⟩
    rw [hPc, List.length_append, List.length_singleton] at hpl
    dsimp only
    omega
  · rintro m₁ ψ h₃ tk₃ ⟨T, H, g1, g2, g3, hx, V, hc, hcf, hall, hpl⟩ F₃ N₃
    exact st12 prog w p loose mean mg mb fa cda dp un A₀ base g L s h₃ tk₃ m₁ ψ hdp hun B X Tp F₃ N₃ ⟨x, T, H, nb, y, yo, to, f, tf, P, tr, g1, g2, g3, hx, V, hc, hall, hlast, by omega, htr, hf, hP, hyl, hyo, hnb⟩

theorem off_Law10 : True := by w_top off; exact trivial
def St10 (L : Addr) (m : Str → Option Value) (φ : Led) : Prop := ∃ x T H nb y q tq z tz yo to f tf, m (Str.ofString "body") = some (.ref x) ∧ m (Str.ofString "pattern") = some (.str q tq) ∧ m (Str.ofString "added") = some (.str z tz) ∧ m (Str.ofString "after") = some (.str yo to) ∧ m (Str.ofString "many") = some (.int ((f : Nat) : Int) tf) ∧
  x = T.x ∧ TV φ T H nb ∧ CellY φ (L + 1) y ∧ L + 1 ∉ T.fp ∧ tx y = H.cur ∧ H.cur.length ≤ 15 ∧ nb ≤ 4 ∧ H.past.length ≤ 3 ∧ H.future = [] ∧ (tx q).length ≤ 4 ∧ (tx z).length ≤ 3 ∧ Rep (tx q) (tx z) (tx y) (tx yo) f
set_option maxHeartbeats 300000 in
theorem st10 : Stage 10 St10 := by
  walk_at "my_fill"
  rintro prog w p loose mean mg mb fa cda dp un A₀ base g L s h tk m φ hdp hun B X Tp F N ⟨x, T, H, nb, y, q, tq, z, tz, yo, to, f, tf, g1, g2, g3, g4, g5, hx, V, hc, hcf, hy, hl, hnb, hp, hfu, hq, hz, hR⟩
  delta LawGo lawFn fnBody
  dsimp only
  show wpAny _ _ (execs (_ :: _) _) _ _ _
  k_fold
  have F₁ := fr_put5 g1 g2 g3 g4 g5 F
  clear g1 g2 g3 g4 g5 F
  have hql : (tx q).length ≤ 100 := by omega
  iterate 16 walk1
  rename_i f' t' T' H' tr' hV hfr hR' hpa htr hfu' hfl hcl
  rw [← hy] at hR'
  obtain ⟨e1, e2⟩ := Rep.uniq hR' hR
  subst e2
  clear hR' hR
  have hx' := frame_x hfr hx
  obtain ⟨hxi, hxd⟩ := hV.inst
  rw [← hx'] at hxi
  obtain ⟨hc', hcf'⟩ := hc.frame hfr hcf
  obtain ⟨oc, tc, hcm, hod⟩ := hc'
  iterate 4 walk1
  · exact absurd rfl ‹((f' : Nat) : Int) ≠ ((f' : Nat) : Int)›
  iterate 11 walk1
  all_goals rename (tx _ = H'.cur) => hy9
  · exfalso
    rename (_ = true) => hcc
    rw [tx_inj (hy9.trans e1), bne_self_eq_false] at hcc
    cases hcc
  · iterate 3 walk1
    rename Fr _ _ _ _ => F₉
    rename News _ _ _ _ => N₉
    rename Keep _ _ _ => k₉
    have ha : H'.all = H.past ++ [tx y] ++ tr' := by unfold Hist.all; rw [hfu', List.reverse_nil, hy]; exact hpa
    have hpl := congrArg List.length hpa
    simp only [List.length_append, List.length_singleton] at hpl
    have hla : (H.past ++ [tx y] ++ tr').getLast? = some (tx yo) := by rw [hy, ← hpa, e1]; simp
    exact st11 prog w p loose mean mg mb fa cda dp un A₀ base g L s _ _ _ _ hdp hun B X Tp F₉ N₉ ⟨x, T', H', nb + f', y, yo, to, f', tf, H.past, tr', rfl, rfl, rfl, hx', hV.sub k₉.sub, ⟨oc, tc, k₉.sub _ hcm, hod⟩, hcf', ha, hla, by omega, htr, by omega, by omega, by rw [hy]; omega, by rw [← e1]; exact hcl, by omega⟩

theorem off_Law9 : True := by w_top off; exact trivial
def St8 (L : Addr) (m : Str → Option Value) (φ : Led) : Prop := ∃ x T H nb y q tq z tz, m (Str.ofString "body") = some (.ref x) ∧ m (Str.ofString "pattern") = some (.str q tq) ∧ m (Str.ofString "added") = some (.str z tz) ∧
  x = T.x ∧ TV φ T H nb ∧ CellY φ (L + 1) y ∧ L + 1 ∉ T.fp ∧ tx y = H.cur ∧ H.cur.length ≤ 15 ∧ nb ≤ 4 ∧ H.past.length ≤ 3 ∧ H.future = [] ∧ (tx q).length ≤ 4 ∧ (tx z).length ≤ 3
set_option maxHeartbeats 400000 in
theorem st9 : Stage 9 St8 := by
  walk_at "my_fill"
  rintro prog w p loose mean mg mb fa cda dp un A₀ base g L s h tk m φ hdp hun B X Tp F N ⟨x, T, H, nb, y, q, tq, z, tz, g1, g2, g3, hx, V, ⟨oc, tc, hcm, hod⟩, hcf, hy, hl, hnb, hp, hfu, hq, hz⟩
  delta LawGo lawFn fnBody
  dsimp only
  show wpAny _ _ (execs (_ :: _) _) _ _ _
  k_fold
  have F₁ := fr_put3 g1 g2 g3 F
  clear g1 g2 g3 F
  have hyl : (tx y).length ≤ 100 := by rw [hy]; omega
  iterate 14 walk1
  rename Fr _ _ _ _ => F₂
  rename News _ _ _ _ => N₂
  rename Keep _ _ _ => k₂
  rename Rep _ _ _ _ _ => hR
  rename_i t' yo to f tf n hm
  refine assign2X F₂ N₂ hm rfl fun h₃ tk₃ F₃ N₃ => ?_
  have F₄ := fr_put5 (x1 := Str.ofString "body") (x2 := Str.ofString "pattern") (x3 := Str.ofString "added") (x4 := Str.ofString "after") (x5 := Str.ofString "many") rfl rfl rfl rfl rfl F₃
  exact st10 prog w p loose mean mg mb fa cda dp un A₀ base g L s _ _ _ _ hdp hun B X Tp F₄ N₃ ⟨x, T, H, nb, y, q, tq, z, tz, yo, to, f, tf, rfl, rfl, rfl, rfl, rfl, hx, V.sub k₂.sub, ⟨oc, tc, k₂.sub _ hcm, hod⟩, hcf, hy, hl, hnb, hp, hfu, hq, hz, hR⟩

theorem off_Law8 : True := by w_top off; exact trivial
set_option maxHeartbeats 600000 in
theorem st8 : Stage 8 St8 := by
  walk_at "my_fill"
  rintro prog w p loose mean mg mb fa cda dp un A₀ base g L s h tk m φ hdp hun B X Tp F N ⟨x, T, H, nb, y, q, tq, z, tz, g1, g2, g3, hx, V, ⟨oc, tc, hcm, hod⟩, hcf, hy, hl, hnb, hp, hfu, hq, hz⟩
  delta LawGo lawFn fnBody
  dsimp only
  show wpAny _ _ (execs (_ :: _) _) _ _ _
  k_fold
  have F₁ := fr_put3 g1 g2 g3 F
  clear g1 g2 g3 F
  have hyl := tx_len y
  have hql := tx_len q
  have hyz : (tx y).length ≤ 15 := by rw [hy]; exact hl
  have hyc : (tx y).length = H.cur.length := by rw [hy]
  repeat' (first | (refine wpAny_For ?_) | walk1)
  rename IsRange _ _ _ _ _ _ _ _ => hrng
  rename Fr _ _ _ _ => F₂
  rename News _ _ _ _ => N₂
  refine iter_range (n := y.length + 3) (fun i m ψ => m (Str.ofString "body") = some (.ref x) ∧ m (Str.ofString "pattern") = some (.str q tq) ∧ m (Str.ofString "added") = some (.str z tz) ∧ TV ψ T H nb ∧ (L + 1, oc) ∈ ψ) rfl hrng (range_small (by omega) (by omega) (by omega) (by omega)) (by rw [rangeSize_nat]; omega) F₂ N₂ ⟨rfl, rfl, rfl, V, hcm⟩ ?_ ?_ ?_
  · rintro i m ψ ψ' hs ⟨a1, a2, a3, a4, a5⟩
    exact ⟨a1, a2, a3, a4.mono fun p hp hg => hs p hp (.inl hg), hs _ a5 (.inl (good_cell hod))⟩
  · rintro i ti m₁ ψ I Io h₃ tk₃ hi ⟨g1, g2, g3, V₁, hcm₁⟩ hI hI' F₃ N₃
    refine assign1X (fr_put3 g1 g2 g3 F₃) N₃ fun h₄ tk₄ F₄ N₄ => ?_
    k_fold
    clear g1 g2 g3 F₃ N₃ F₂ N₂
    obtain ⟨hxi, hxd⟩ := V₁.inst
    rw [← hx] at hxi
    repeat' walk1
    all_goals (with_reducible rename FindRes _ _ _ _ => hV)
    all_goals rw [← hy] at hV
    all_goals first
      | (with_reducible rename First _ _ _ _ => hF
         have e := First.uniq (hV.1 ⟨by omega, by omega⟩) hF
         first
         | exact absurd e (by assumption)
         | (with_reducible rename Fr _ _ _ _ => F₉
            with_reducible rename News _ _ _ _ => N₉
            exact ⟨_, _, _, _, rfl, F₉, N₉, by walk_at "my_mem", rfl, rfl, rfl, by walk_at "my_tv", by walk_at "my_mem"⟩))
      | (have e := hV.2 (by omega)
         first
         | exact absurd e (by assumption)
         | (with_reducible rename Fr _ _ _ _ => F₉
            with_reducible rename News _ _ _ _ => N₉
            exact ⟨_, _, _, _, rfl, F₉, N₉, by walk_at "my_mem", rfl, rfl, rfl, by walk_at "my_tv", by walk_at "my_mem"⟩))
  · rintro m₁ ψ h₃ tk₃ ⟨g1, g2, g3, V₁, hcm₁⟩ F₃ N₃
    exact st9 prog w p loose mean mg mb fa cda dp un A₀ base g L s h₃ tk₃ m₁ ψ hdp hun B X Tp F₃ N₃ ⟨x, T, H, nb, y, q, tq, z, tz, g1, g2, g3, hx, V₁, ⟨oc, tc, hcm₁, hod⟩, hcf, hy, hl, hnb, hp, hfu, hq, hz⟩

theorem off_Law7 : True := by w_top off; exact trivial
theorem figs_ne {φ : Led} {l c : Addr} {o : Obj} {v : Option Value} (h : Figs φ l) (U : Uniq φ) (hm : (c, o) ∈ φ) (hd : o.data = .cell v) : c ≠ l := by
  obtain ⟨us, k, ns, h1, _⟩ := h
  exact cell_ne_list U hm hd h1
def St7 (L : Addr) (m : Str → Option Value) (φ : Led) : Prop := ∃ x l T H nb y q tq, m (Str.ofString "body") = some (.ref x) ∧ m (Str.ofString "figures") = some (.ref l) ∧ m (Str.ofString "pattern") = some (.str q tq) ∧ Figs φ l ∧
  x = T.x ∧ TV φ T H nb ∧ CellY φ (L + 1) y ∧ L + 1 ∉ T.fp ∧ tx y = H.cur ∧ H.cur.length ≤ 15 ∧ nb ≤ 4 ∧ H.past.length ≤ 3 ∧ H.future = [] ∧ (tx q).length ≤ 4
def St4 (L : Addr) (m : Str → Option Value) (φ : Led) : Prop := ∃ x l T H nb y, m (Str.ofString "body") = some (.ref x) ∧ m (Str.ofString "figures") = some (.ref l) ∧ Figs φ l ∧
  x = T.x ∧ TV φ T H nb ∧ CellY φ (L + 1) y ∧ L + 1 ∉ T.fp ∧ tx y = H.cur ∧ H.cur.length ≤ 15 ∧ nb ≤ 4 ∧ H.past.length ≤ 3 ∧ H.future = []
set_option maxHeartbeats 400000 in
theorem st7 : Stage 7 St7 := by
  walk_at "my_fill"
  rintro prog w p loose mean mg mb fa cda dp un A₀ base g L s h tk m φ hdp hun B X Tp F N ⟨x, l, T, H, nb, y, q, tq, g1, g2, g3, hG, hx, V, ⟨oc, tc, hcm, hod⟩, hcf, hy, hl, hnb, hp, hfu, hq⟩
  delta LawGo lawFn fnBody
  dsimp only
  show wpAny _ _ (execs (_ :: _) _) _ _ _
  k_fold
  have hne := figs_ne hG (uniq_of N) hcm hod
  have F₁ := fr_put3 g1 g2 g3 F
  clear g1 g2 g3 F
  iterate 13 walk1
  rename Fr _ _ _ _ => F₂
  rename News _ _ _ _ => N₂
  rename Keep _ _ _ => k₂
  rename Soft _ _ => hs
  rename (((tx _).length : Int) < _) => hzl
  rename_i z tz _ _
  have F₄ := fr_put3 (x1 := Str.ofString "body") (x2 := Str.ofString "pattern") (x3 := Str.ofString "added") rfl rfl rfl F₂
  exact st8 prog w p loose mean mg mb fa cda dp un A₀ base g L s _ _ _ _ hdp hun B X Tp F₄ N₂ ⟨x, T, H, nb, y, q, tq, z, tz, rfl, rfl, rfl, hx, tv_soft V hs, ⟨oc, tc, k₂ _ hcm (by simpa using hne), hod⟩, hcf, hy, hl, hnb, hp, hfu, hq, by omega⟩
set_option maxHeartbeats 400000 in
theorem st6 : Stage 6 St4 := by
  walk_at "my_fill"
  rintro prog w p loose mean mg mb fa cda dp un A₀ base g L s h tk m φ hdp hun B X Tp F N ⟨x, l, T, H, nb, y, g1, g2, hG, hx, V, ⟨oc, tc, hcm, hod⟩, hcf, hy, hl, hnb, hp, hfu⟩
  delta LawGo lawFn fnBody
  dsimp only
  show wpAny _ _ (execs (_ :: _) _) _ _ _
  k_fold
  have hne := figs_ne hG (uniq_of N) hcm hod
  have F₁ := fr_put2 g1 g2 F
  clear g1 g2 F
  iterate 13 walk1
  rename Fr _ _ _ _ => F₂
  rename News _ _ _ _ => N₂
  rename Keep _ _ _ => k₂
  rename Soft _ _ => hs
  rename Figs _ _ => hG₂
  rename (((tx _).length : Int) < _) => hql
  rename_i q tq _
  have F₄ := fr_put3 (x1 := Str.ofString "body") (x2 := Str.ofString "figures") (x3 := Str.ofString "pattern") rfl rfl rfl F₂
  exact st7 prog w p loose mean mg mb fa cda dp un A₀ base g L s _ _ _ _ hdp hun B X Tp F₄ N₂ ⟨x, l, T, H, nb, y, q, tq, rfl, rfl, rfl, hG₂, hx, tv_soft V hs, ⟨oc, tc, k₂ _ hcm (by simpa using hne), hod⟩, hcf, hy, hl, hnb, hp, hfu, by omega⟩

theorem kw_63 : True := by
  (k_with "w call type:list" => ((with_reducible show wpAny _ _ (call (Value.type "list") [Value.ref _]) _ _ _); (refine' listOf_led ?w_F ?w_N ?w_m ?w_z ?_; (case w_F => k_asm); (case w_N => k_asm); (case w_m => walk_at "my_mem"); (case w_z => first | assumption | omega); intro _ _ _ _ _ _; (try k_sweep))))
  exact trivial

theorem off_Law5 : True := by w_top off; exact trivial
theorem lines_len : ∀ (l : List Nat) (k : Int), (linesOf l k).length ≤ l.length
  | [], _ => Nat.le_refl _
  | c :: r, k => by
    have := lines_len r (k + 1)
    unfold linesOf
    split
    · rw [List.length_cons, List.length_cons]; omega
    · rw [List.length_cons]; omega
theorem two_tl {h₀ h : Heap} {L : Addr} {a b : Addr × Obj} {φ : Led} (N : News h₀ L h (a :: b :: φ)) : ∃ φ₂ : Led, News h₀ L h φ₂ ∧ a ∈ φ₂ ∧ b ∈ φ₂ ∧ ∀ p ∈ φ, p ∈ φ₂ := ⟨_, N, mem_hd, mem_tl mem_hd, fun p hp => mem_tl (mem_tl hp)⟩
local macro_rules | `(tactic| walk_at "my_ints") => `(tactic| first | with_reducible assumption | assumption | exact IntsAre.cons _ _ (by assumption))
set_option maxHeartbeats 400000 in
theorem st5 : Stage 5 St4 := by
  walk_at "my_fill"
  rintro prog w p loose mean mg mb fa cda dp un A₀ base g L s h tk m φ hdp hun B X Tp F N ⟨x, l, T, H, nb, y, g1, g2, hG, hx, V, ⟨oc, tc, hcm, hod⟩, hcf, hy, hl, hnb, hp, hfu⟩
  delta LawGo lawFn fnBody
  dsimp only
  show wpAny _ _ (execs (_ :: _) _) _ _ _
  k_fold
  have F₁ := fr_put2 g1 g2 F
  clear g1 g2 F
  have hyl := tx_len y
  have hyz : (tx y).length ≤ 15 := by rw [hy]; exact hl
  have hyc : (tx y).length = H.cur.length := by rw [hy]
  have hll := lines_len H.cur 0
  iterate 15 walk1
  rename IntsAre _ _ => hI₁
  rename Keep _ _ _ => k₁
  have hIl := hI₁.length
  rename_i φ₁ _ _ lA uA kA hlA hfA
  have hul : uA.length ≤ 100 := by rw [hIl, List.length_cons]; omega
  iterate 8 walk1
  refine LCt.ListComp_T (F₀ := by k_asm) (by with_unfolding_all rfl) (by decide) (by rfl) (by decide) (by rfl) ?_
  iterate 13 walk1
  rename IsRange _ _ _ _ _ _ _ _ => hrng
  rename Fr _ _ _ _ => F₂
  rename News _ _ _ _ => N₂
  rename (_ ∧ AllLt _ _) => lL
  rename (∀ q ∈ φ₁, _) => lD
  obtain ⟨φ₂, N₃, hmL, hmD, hsub⟩ := two_tl N₂
  clear N₂ lL
  refine LCt.CompSrcT.range (n := y.length) rfl F₂ N₃ hrng (range_small (by omega) (by omega) (by omega) (by omega)) (by rw [rangeSize_nat]; simp) (by rw [sizeLine_eq]; omega) fun gh => ?_
  refine rest_invT (n := y.length) (fun i ys ψ => IntsAre ys (linesOf ((tx y).take i) 0) ∧ (L + 1, oc) ∈ ψ ∧ Keep φ₂ [] ψ) ?_ ?_ y.length 0 [] _ (by omega) ⟨.nil, hsub _ (k₁.sub _ hcm), Keep.refl _ _⟩
  · rintro i u ys ψ I oI C oC D m₂ h tk E' hi ⟨hI₂, hcm₂, hk₂⟩ ⟨tu, rfl⟩ hC hxx F₄ N₄ off ne
    rw [Int.zero_add] at hxx
    k_fold
    obtain ⟨c, hc⟩ : ∃ c, (tx y)[i]? = some c := ⟨_, List.getElem?_eq_getElem (by omega)⟩
    have hit : Txt.item y (i : Int) = ⟨#[c]⟩ := item_sign (by omega) (by rw [Int.toNat_natCast]; exact hc)
    have hnl : tx (Str.ofString "\n") = [10] := by decide +kernel
    have hfil : ∀ q ∈ ψ, q ∈ ((I, oI) :: (C, oC) :: (D, LCg.lst ys) :: ψ).filter fun q => decide (q.1 ≠ I ∧ q.1 ≠ C ∧ q.1 ≠ D) := fun q hq => List.mem_filter.mpr ⟨mem_tl (mem_tl (mem_tl hq)), decide_eq_true (off q hq)⟩
    repeat' walk1
    · rename ((_ == _) = true) => hcc
      rw [hit, sign_eq, hnl] at hcc
      have hc2 : c = 10 := by simpa [eq_comm] using hcc
      refine ⟨_, _, _, rfl, F₄, N₄, mem_hd, mem_tl mem_hd, mem_tl (mem_tl mem_hd), trivial, ?_, hfil _ hcm₂, fun q hq hn => hfil _ (hk₂ q hq hn)⟩
      rw [take_succ hc, lines_snoc, List.length_take, Nat.min_eq_left (by omega), if_pos hc2, Int.zero_add]
      exact IntsAre.append hI₂ (.cons _ _ .nil)
    · rename ((_ == _) = false) => hcc
      have hc2 : c ≠ 10 := by
        rintro rfl
        have : ((⟨#[10]⟩ : Str) == Str.ofString "\n") = true := by rw [sign_eq]; decide +kernel
        rw [hit, this] at hcc
        cases hcc
      refine ⟨_, _, _, rfl, F₄, N₄, mem_hd, mem_tl mem_hd, mem_tl (mem_tl mem_hd), trivial, ?_, hfil _ hcm₂, fun q hq hn => hfil _ (hk₂ q hq hn)⟩
      rw [take_succ hc, lines_snoc, if_neg hc2, List.append_nil]
      exact hI₂
  · rintro ys ψ ⟨hI₂, hcm₂, hk₂⟩
    intro D h tk F₄ N₄ o1
    rw [← hyl, List.take_length] at hI₂
    rw [← hy] at hI₁ hll
    have hDm : (D, listOf ys.toArray ys.length) ∈ (D, LCg.lst ys) :: ψ := mem_hd
    have hmL' := hk₂.sub _ hmL
    have hmD' := hk₂.sub _ hmD
    have hys : ys.length ≤ 100 := by rw [hI₂.length]; omega
    iterate 5 walk1
    rw [if_pos (decide_eq_true rfl)]
    iterate 2 walk1
    rename Fr _ _ _ _ => F₉
    rename News _ _ _ _ => N₉
    have hsb : ∀ q ∈ φ, q ∈ ψ := fun q hq => hk₂.sub _ (hsub _ (k₁.sub _ hq))
    exact st6 prog w p loose mean mg mb fa cda dp un A₀ base g L s _ _ _ _ hdp hun B X Tp F₉ N₉ ⟨x, l, T, H, nb, y, rfl, rfl, hG.sub fun q hq => mem_tl (mem_tl (hsb q hq)), hx, V.sub fun q hq => mem_tl (mem_tl (hsb q hq)), ⟨oc, tc, mem_tl (mem_tl (hsb _ hcm)), hod⟩, hcf, hy, hl, hnb, hp, hfu⟩

theorem off_Law4 : True := by w_top off; exact trivial
set_option maxHeartbeats 400000 in
theorem st4 : Stage 4 St4 := by
  walk_at "my_fill"
  rintro prog w p loose mean mg mb fa cda dp un A₀ base g L s h tk m φ hdp hun B X Tp F N ⟨x, l, T, H, nb, y, g1, g2, hG, hx, V, ⟨oc, tc, hcm, hod⟩, hcf, hy, hl, hnb, hp, hfu⟩
  delta LawGo lawFn fnBody
  dsimp only
  show wpAny _ _ (execs (_ :: _) _) _ _ _
  k_fold
  have F₁ := fr_put2 g1 g2 F
  clear g1 g2 F
  have hyl := tx_len y
  have hyz : (tx y).length ≤ 15 := by rw [hy]; exact hl
  have hyc : (tx y).length = H.cur.length := by rw [hy]
  obtain ⟨hxi, hxd⟩ := V.inst
  rw [← hx] at hxi
  iterate 12 walk1
  rename (tx _ = H.cur) => hy9
  rename Keep _ _ _ => k₁
  rw [if_neg (by rw [tx_inj (hy9.trans hy.symm), bne_self_eq_false]; exact Bool.false_ne_true)]
  iterate 17 walk1
  · exfalso; omega
  rename Fr _ _ _ _ => F₉
  rename News _ _ _ _ => N₉
  rename Keep _ _ _ => k₂
  iterate 4 walk1
  have hsb : ∀ q ∈ φ, q ∈ _ := fun q hq => k₂.sub _ (k₁.sub _ hq)
  exact st5 prog w p loose mean mg mb fa cda dp un A₀ base g L s _ _ _ _ hdp hun B X Tp F₉ N₉ ⟨x, l, T, H, nb, y, rfl, rfl, hG.sub hsb, hx, V.sub hsb, ⟨oc, tc, hsb _ hcm, hod⟩, hcf, hy, hl, hnb, hp, hfu⟩

theorem off_Law3 : True := by w_top off; exact trivial
theorem cellNe {φ : Led} {a c : Addr} {o o1 : Obj} {v : Option Value} (U : Uniq φ) (h1 : (a, o1) ∈ φ) (h2 : (c, o) ∈ φ) (hd : o.data = .cell v) (hn : o1.data ≠ .cell v) : a ≠ c := by
  rintro rfl
  exact hn (by rw [U _ _ _ h1 h2]; exact hd)
theorem noTup_cell {φ : Led} {c : Addr} {o : Obj} {v : Option Value} (U : Uniq φ) (h2 : (c, o) ∈ φ) (hd : o.data = .cell v) : NoTup φ c := fun _ _ _ hm => cellNe U hm h2 hd (fun h => by cases h)
theorem PLs.offCell {φ ψ : Led} {fp : List Addr} {us : List Value} {pss : List (List (Int × Int × Int))} {c : Addr} {o : Obj} {v : Option Value} (h : PLs φ fp us pss) (U : Uniq φ) (h2 : (c, o) ∈ φ) (hd : o.data = .cell v) (hs : ∀ p ∈ φ, p.1 ≠ c → p ∈ ψ) : PLs ψ fp us pss :=
  h.off (noTup_cell U h2 hd) (fun _ _ _ hm hn => ⟨cellNe U hm h2 hd (fun h => by cases h), hn⟩) hs
/-- a cell is none of the text's -/
theorem TV.offCell {φ ψ : Led} {T : TA} {H : Hist} {nb : Nat} {c : Addr} {o : Obj} {v : Option Value} (V : TV φ T H nb) (U : Uniq φ) (h2 : (c, o) ∈ φ) (hd : o.data = .cell v) (hs : ∀ p ∈ φ, p.1 ≠ c → p ∈ ψ) : TV ψ T H nb := by
  obtain ⟨S, X, W⟩ := V.ex
  exact ⟨S, ⟨hs _ X.hx (cellNe U X.hx h2 hd fun h => by cases h), hs _ X.hd (cellNe U X.hd h2 hd fun h => by cases h),
    hs _ X.hb (cellNe U X.hb h2 hd fun h => by cases h), hs _ X.hp (cellNe U X.hp h2 hd fun h => by cases h), hs _ X.ha (cellNe U X.ha h2 hd fun h => by cases h), hs _ X.hf (cellNe U X.hf h2 hd fun h => by cases h),
    X.hB, X.hP.off (noTup_cell U h2 hd) hs, X.hA.offCell U h2 hd hs, X.hF.offCell U h2 hd hs, X.d1, X.d2, X.d3, X.d4⟩, W⟩
theorem Figs.offCell {φ ψ : Led} {l c : Addr} {o : Obj} {v : Option Value} (h : Figs φ l) (U : Uniq φ) (h2 : (c, o) ∈ φ) (hd : o.data = .cell v) (hs : ∀ p ∈ φ, p.1 ≠ c → p ∈ ψ) : Figs ψ l := by
  obtain ⟨us, k, ns, h1, h3, h4⟩ := h
  exact ⟨us, k, ns, hs _ h1 (cellNe U h1 h2 hd fun h => by cases h), h3, h4⟩
theorem figs_fresh {φ : Led} {l I : Addr} (h : Figs φ l) (hI : ∀ p ∈ φ, p.1 ≠ I) : I ≠ l := by
  obtain ⟨us, k, ns, h1, _⟩ := h
  exact (hI _ h1).symm
theorem figs_mem {φ : Led} {l : Addr} (h : Figs φ l) : ∃ o, (l, o) ∈ φ := by
  obtain ⟨us, k, ns, h1, _⟩ := h
  exact ⟨_, h1⟩
def St3 (L : Addr) (m : Str → Option Value) (φ : Led) : Prop := ∃ x l T, m (Str.ofString "body") = some (.ref x) ∧ m (Str.ofString "figures") = some (.ref l) ∧ Figs φ l ∧
  x = T.x ∧ TV φ T { past := [], cur := [], future := [] } 1 ∧ CellY φ (L + 1) (Str.ofString "") ∧ L + 1 ∉ T.fp ∧ l ∉ T.fp
set_option maxHeartbeats 400000 in
theorem st3 : Stage 3 St3 := by
  walk_at "my_fill"
  rintro prog w p loose mean mg mb fa cda dp un A₀ base g L s h tk m φ hdp hun B X Tp F N ⟨x, l, T, g1, g2, hG, hx, V, ⟨oc, tc, hcm, hod⟩, hcf, hlf⟩
  delta LawGo lawFn fnBody
  dsimp only
  show wpAny _ _ (execs (_ :: _) _) _ _ _
  k_fold
  have F₁ := fr_put2 g1 g2 F
  clear g1 g2 F
  have hne := figs_ne hG (uniq_of N) hcm hod
  repeat' (first | (refine wpAny_For ?_) | walk1)
  rename IsRange _ _ _ _ _ _ _ _ => hrng
  rename Fr _ _ _ _ => F₂
  rename News _ _ _ _ => N₂
  rename Keep _ _ _ => k₂
  rename Soft _ _ => hs₂
  rename Figs _ _ => hG₂
  rename Drawn _ _ _ => hD₂
  rename (_ < (4 : Int)) => hv4
  rename (0 ≤ _) => hv0
  clear hD₂
  rename_i φ₂ _ _ v _ _ _ _ _ _ _
  refine iter_range (n := v.toNat) (fun i m ψ => ∃ T H y, m (Str.ofString "body") = some (.ref x) ∧ m (Str.ofString "figures") = some (.ref l) ∧ Figs ψ l ∧ x = T.x ∧ TV ψ T H (1 + i) ∧ CellY ψ (L + 1) y ∧ L + 1 ∉ T.fp ∧ l ∉ T.fp ∧ tx y = H.cur ∧ H.cur.length ≤ 5 * i ∧ H.past.length ≤ i ∧ H.future = [])
    rfl hrng (range_small (by omega) (by omega) (by omega) (by omega)) (by rw [rangeSize_nat]; simp) F₂ N₂ ⟨T, _, Str.ofString "", rfl, rfl, hG₂, hx, tv_soft V hs₂, ⟨oc, tc, k₂ _ hcm (by simpa using hne), hod⟩, hcf, hlf, by decide +kernel, Nat.le_refl _, Nat.le_refl _, rfl⟩ ?_ ?_ ?_
  · rintro i m ψ ψ' hs ⟨T, H, y, a1, a2, a3, a4, a5, a6, a7⟩
    exact ⟨T, H, y, a1, a2, a3.good fun p hp hg => hs p hp (.inl hg), a4, a5.mono fun p hp hg => hs p hp (.inl hg), a6.good fun p hp hg => hs p hp (.inl hg), a7⟩
  · rintro i ti m₁ ψ I Io h₃ tk₃ hi ⟨T, H, y, g1, g2, hG₃, hx, V, ⟨oc, tc, hcm, hod⟩, hcf, hlf, hy, hl, hp, hfu⟩ hI hI' F₃ N₃
    refine assign1X (fr_put2 g1 g2 F₃) N₃ fun h₄ tk₄ F₄ N₄ => ?_
    k_fold
    have hnI := V.offI hI'
    have hIl := figs_fresh hG₃ hI'
    have hcl := figs_ne hG₃ (uniq_of (newsSub N₄ fun p hp => mem_tl hp)) hcm hod
    have hyl := tx_len y
    have hyc : (tx y).length = H.cur.length := by rw [hy]
    have hn3 : i < 3 := by omega
    have hcm₀ : (L + 1, oc) ∈ (I, Io) :: ψ := mem_tl hcm
    have hLI : L + 1 ≠ I := hI' _ hcm
    clear g1 g2 F₃ N₃ F₂ N₂
    iterate 22 walk1
    with_reducible rename Keep _ _ _ => k₅
    with_reducible rename Soft _ _ => hs₅
    with_reducible rename Figs _ _ => hG₅
    with_reducible rename Drawn _ _ _ => hD₅
    rename_i _ _ φ₅ v₅ t₅ hv50 hv51 _ F₅ N₅
    have hm₅ : (I, Io) ∈ φ₅ := k₅ _ mem_hd (by simpa using hIl)
    have hc₅ : (L + 1, oc) ∈ φ₅ := k₅ _ (mem_tl hcm) (by simpa using hcl)
    have V₅ : TV φ₅ T H (1 + i) := tv_soft (V.sub fun q hq => mem_tl hq) hs₅
    clear k₅ hs₅ hD₅ hcm₀ hcm hG₃ V
    iterate 13 walk1
    with_reducible rename Keep _ _ _ => k₆
    with_reducible rename Soft _ _ => hs₆
    with_reducible rename Figs _ _ => hG₆
    rename_i _ _ φ₆ y₆ t₆ hy₆ _ F₆ N₆
    have hm₆ : (I, Io) ∈ φ₆ := k₆ _ hm₅ (by simpa using hIl)
    have hc₆ : (L + 1, oc) ∈ φ₆ := k₆ _ hc₅ (by simpa using hcl)
    have V₆ : TV φ₆ T H (1 + i) := tv_soft V₅ hs₆
    have hy₆l := tx_len y₆
    clear k₆ hs₆ hc₅ hm₅ hG₅ V₅
    obtain ⟨hxi, hxd⟩ := V₆.inst
    rw [← hx] at hxi
    iterate 14 walk1
    rename_i _ _ φ₇ F₇ N₇ T' H' V₇ fr₇ hc₇ hp₇ hf₇
    have hm₇ : (I, Io) ∈ φ₇ := fr₇.2.1 _ hm₆ hnI
    have hc₈ : (L + 1, oc) ∈ φ₇ := fr₇.2.1 _ hc₆ hcf
    have hG₇ : Figs φ₇ l := frame_figs fr₇ hlf hG₆
    have hcf' := frame_off fr₇ hcf hc₆
    have hlf' : l ∉ T'.fp := by obtain ⟨o, ho⟩ := figs_mem hG₆; exact frame_off fr₇ hlf ho
    have hx' := frame_x fr₇ hx
    have U₇ := uniq_of N₇
    clear hm₆ hc₆ hG₆ V₆ fr₇ hxi hxd
    repeat' walk1
    rename Fr _ _ _ _ => F₉
    rename News _ _ _ _ => N₉
    rename_i o' d'
    have hs₉ : ∀ q ∈ φ₇, q.1 ≠ L + 1 → q ∈ put (L + 1) o' φ₇ := fun q hq hn => put_of hq hn
    have e1 : tx (Txt.slice y none (some v₅) ++ y₆ ++ Txt.slice y (some v₅) none) = H'.cur := by
      rw [tx_append, tx_append, slice_ns hv50 (by omega), slice_sn hv50 (by omega), hc₇, hy]
    refine ⟨_, _, _, _, rfl, F₉, N₉, hs₉ _ hm₇ (Ne.symm hLI), T', H', _, rfl, rfl, hG₇.offCell U₇ hc₈ hod hs₉, hx', V₇.offCell U₇ hc₈ hod hs₉, ⟨o', _, put_self _ _ _, d'⟩, hcf', hlf', e1, ?_, by omega, hf₇⟩
    rw [hc₇, List.length_append, List.length_append, List.length_take, List.length_drop]
    omega
  · rintro m₁ ψ h₃ tk₃ ⟨T, H, y, g1, g2, hG, hx, V, hc, hcf, hlf, hy, hl, hp, hfu⟩ F₃ N₃
    exact st4 prog w p loose mean mg mb fa cda dp un A₀ base g L s h₃ tk₃ m₁ ψ hdp hun B X Tp F₃ N₃ ⟨x, l, T, H, 1 + v.toNat, y, g1, g2, hG, hx, V, hc, hcf, hy, by omega, by omega, by omega, hfu⟩

theorem off_LawTop : True := by w_top off; exact trivial
set_option maxHeartbeats 2000000 in
theorem law_holds : PySem.Challenge.rw_on0209_01.Holds := Mine.hd (by
  k_go0
  refine law_top (by assumption) ?_ ?_
  · rintro fl s' ⟨h', tk, m', φ', rfl, F', N', hp⟩
    cases fl with
    | ret v =>
      subst hp
      dsimp only
      wrow_close
    | _ => cases hp
  rename CellsAre _ _ _ => Y
  rename Fr _ _ _ _ => F
  rename News _ _ _ _ => N
  rename (¬ ((63 : Nat) : Int) < _) => hmost
  rename Heap.IsList _ _ _ => hlist
  rename IntsAre _ _ => hI
  rename Frag.In _ _ => X
  rename Top _ _ _ _ _ _ => Tp
  rename World => w
  intro dp un hdp hun
  k_fold
  have B := below_caller (Top.heap Tp)
  obtain ⟨oc, hoe, hoc⟩ := CellsAre.one Y
  rw [hoe] at N
  clear Y hoe
  have hlen : List.length _ ≤ 63 := Nat.le_of_not_lt fun h => hmost (by exact_mod_cast h)
  have hoc' : oc.data = .cell none := hoc
  clear hoc
  iterate 10 walk1
  rename Figs _ _ => hG₁
  rename Keep _ _ _ => k₁
  rename (∀ p ∈ ([_] : Led), _) => hf₁
  have hcm : _ ∈ _ := k₁.sub _ mem_hd
  iterate 9 walk1
  rename Keep _ _ _ => k₂
  rename TV _ _ _ _ => V₂
  rename News _ _ _ _ => N₂
  have hG₂ := hG₁.sub k₂.sub
  have hc₂ := k₂.sub _ hcm
  have U₂ := uniq_of N₂
  rename (∀ b ∈ TA.fp _, _) => hfp
  have hcf := fun hb => hfp _ hb _ hcm rfl
  obtain ⟨ol, hol⟩ := figs_mem hG₁
  have hlf := fun hb => hfp _ hb _ hol rfl
  iterate 4 walk1
  rename Fr _ _ _ _ => F₉
  rename News _ _ _ _ => N₉
  rename_i o' d'
  exact st3 _ w _ _ _ _ _ _ _ dp un _ _ _ _ _ _ _ _ _ hdp hun B X Tp F₉ N₉ ⟨_, _, _, rfl, rfl, hG₂.offCell U₂ hc₂ hoc' fun q hq hn => put_of hq hn, rfl, V₂.offCell U₂ hc₂ hoc' fun q hq hn => put_of hq hn, ⟨o', _, put_self _ _ _, d'⟩, hcf, hlf⟩)

end Mine

set_option maxHeartbeats 400000 in
theorem PySem.Challenge.cw_on0209_01_holds : PySem.Challenge.rw_on0209_01.Holds :=
  Mine.law_holds
